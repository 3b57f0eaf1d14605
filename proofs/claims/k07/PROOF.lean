import PyProof.Rows.All
import Wide.All
import OpenK.AllK
import Wide.FinOn
import HandS.ForMost
import HandS.Wide
import HandS.Deep
import HandS.Walk
import HandS.Zip
import HandS.TupAny
import HandS.Flow
import HandS.IsInst
import PyProof.Rows.RuleB_pow
import KE.DataCmp
import HandS.Conv
import HandS.SortInts
import HandS.More
import KE.SortData
import KE.DataMinMax
import HandS.Sort
import PyProof.TupleOfSeq
import HandS.Remove
import HandS.SetFor
import HandS.Style
import HandS.RaiseMore
import PyProof.ReprRoads
import HandS.Zip0
import KE.KDictZip
import HandS.TupSets
import KE.DataFind
import KE.KDictList
import KE.KDictSum
import KE.KDictPairs
import KE.GoesMore
import KE.KRevSl
import HandS.Strs
import HandS.List
import HandS.SortKw
import PyProof.Rows.StrInSeq3
import KE.KDictKeyed
import HandS.TryOnly
import HandS.ExcInit
import HandS.ExcOwn
import HandS.WordsExc
import HandS.ExcIs
import KE.KExcIs
import PySem.Challenge.RW_drawnweb_k07_done
set_option Elab.async false
set_option linter.all false
set_option maxRecDepth 100000
/-! Mirror values: what a value, a container, a frame stand for, and the readings that a mirror gives. -/
namespace MV
open PySem PySem.Spec PyProof.Rows L2
abbrev Frg := PySem.W.Frag

/-! ### the mirror's world -/
/-- an item of a cell that may hold cells: a datum, or the n-th cell -/
inductive Itm where
  | d (x : PyData)
  | c (n : Nat)
inductive Cell where
  | lst (xs : List PyData)
  | dic (kvs : List (PyData × PyData))
  /-- a dict, a list, an instance of the class at C, of which an item may be a cell that was made ahead of it -/
  | rcd (kvs : List (Key × Itm))
  | nls (xs : List Itm)
  | ins (C : Addr) (fs : List (Str × Itm))
  /-- a dict whose keys are pairs of numbers -/
  | dtp (kvs : List ((Int × Int) × PyData))
inductive Val where
  /-- a datum -/
  | d (x : PyData)
  /-- the n-th cell of the store -/
  | c (n : Nat)
  /-- a container just made, not yet in the store -/
  | f (k : Cell)
  /-- a list that stands locked (the script) -/
  | z (xs : List PyData)
  /-- cells just made, not yet in the store: the i-th of them -/
  | g (cs : List Cell) (i : Nat)
  /-- a thing of which nothing is told -/
  | x
structure Exn where
  name : Str
  fs : List (Str × PyData)
abbrev Sto := List Cell
abbrev Envi := List (Option Val)
inductive Res (α : Type) where
  | ok (a : α) (S : Sto)
  | exc (e : Exn) (S : Sto)
  | no
def Cell.data : Cell → PyData
  | .lst xs => .list xs
  | .dic kvs => .dict kvs
  | _ => .none
def Val.th : Val → Val
  | .f (.lst xs) => .d (.list xs)
  | .f (.dic kvs) => .d (.dict kvs)
  | .f _ => .x
  | .g _ _ => .x
  | v => v
def Itm.lt (n : Nat) : Itm → Bool
  | .d _ => true
  | .c k => decide (k < n)
/-- the cells that a cell holds stand ahead of n -/
def Cell.lt (n : Nat) : Cell → Bool
  | .rcd kvs => kvs.all fun p => p.2.lt n
  | .nls xs => xs.all (Itm.lt n)
  | .ins _ fs => fs.all fun p => p.2.lt n
  | _ => true
def Res.bind {α β : Type} (r : Res α) (g : α → Sto → Res β) : Res β := match r with
  | .ok a S => g a S
  | .exc e S => .exc e S
  | .no => .no

/-! ### what stands for what -/
def KTup (K : Frg) (a : Addr) (xs : List V) : Prop := SqT K (fun _ => none) a xs
def LstAt (A : List Addr) (H : Hp) (a : Addr) (xs : List V) : Prop := H a = some (.lst xs) ∧ a ∉ A
def TupH (H : Hp) (a : Addr) (xs : List V) : Prop := H a = some (.tup xs) ∨ False
def TupAt (K : Frg) (A : List Addr) (H : Hp) (a : Addr) (xs : List V) : Prop := (TupH H a xs ∧ a ∉ A) ∨ KTup K a xs
def kD : Key → PyData
  | .inl i => .int i
  | .inr x => .str x
mutual
inductive Rp (K : Frg) (A : List Addr) (H : Hp) : V → PyData → Prop
  | non : Rp K A H .non .none
  | bl (b : Bool) : Rp K A H (.bl b) (.bool b)
  | int (i : Int) : Rp K A H (.int i) (.int i)
  | str (x : Str) : Rp K A H (.str x) (.str x)
  | lst {a : Addr} {xs : List V} {ds : List PyData} : LstAt A H a xs → RpL K A H xs ds → Rp K A H (.ref a) (.list ds)
  | tup {a : Addr} {xs : List V} {ds : List PyData} : TupAt K A H a xs → RpL K A H xs ds → Rp K A H (.ref a) (.tuple ds)
  | dic {a : Addr} {kvs : List (Key × V)} {ps : List (PyData × PyData)} : H a = some (.dK kvs) → a ∉ A → RpD K A H kvs ps → Rp K A H (.ref a) (.dict ps)
inductive RpL (K : Frg) (A : List Addr) (H : Hp) : List V → List PyData → Prop
  | nil : RpL K A H [] []
  | cons {v : V} {vs : List V} {d : PyData} {ds : List PyData} : Rp K A H v d → RpL K A H vs ds → RpL K A H (v :: vs) (d :: ds)
inductive RpD (K : Frg) (A : List Addr) (H : Hp) : List (Key × V) → List (PyData × PyData) → Prop
  | nil : RpD K A H [] []
  | cons {k : Key} {v : V} {kvs : List (Key × V)} {d : PyData} {ps : List (PyData × PyData)} : Rp K A H v d → RpD K A H kvs ps → RpD K A H ((k, v) :: kvs) ((kD k, d) :: ps)
end

abbrev upd1 := @L2.upd
/-- what was read off A stays, and stands off A' -/
def Kp (A : List Addr) (H : Hp) (A' : List Addr) (H' : Hp) : Prop := ∀ b o, H b = some o → b ∉ A → H' b = some o ∧ b ∉ A'
section
variable {K : Frg} {A A' A2 : List Addr} {H H' H2 : Hp} {a : Addr} {xs : List V}
theorem Kp.rd {u : HO} (k : Kp A H A' H') (r : Rd H a u) (n : a ∉ A) : Rd H' a u ∧ a ∉ A' := by
  rcases r with r | ⟨o, r⟩
  · exact ⟨.inl (k _ _ r n).1, (k _ _ r n).2⟩
  · exact ⟨.inr ⟨o, (k _ _ r n).1⟩, (k _ _ r n).2⟩
theorem LstAt.mono (k : Kp A H A' H') (h : LstAt A H a xs) : LstAt A' H' a xs := k _ _ h.1 h.2
theorem TupAt.mono (k : Kp A H A' H') (h : TupAt K A H a xs) : TupAt K A' H' a xs := by
  rcases h with ⟨r | r, n⟩ | h
  · exact .inl ⟨.inl (k _ _ r n).1, (k _ _ r n).2⟩
  · exact r.elim
  · exact .inr h
mutual
theorem Rp.mono (k : Kp A H A' H') : ∀ {v : V} {d : PyData}, Rp K A H v d → Rp K A' H' v d
  | _, _, .non => .non
  | _, _, .bl b => .bl b
  | _, _, .int i => .int i
  | _, _, .str x => .str x
  | _, _, .lst h t => .lst (h.mono k) (RpL.mono k t)
  | _, _, .tup h t => .tup (h.mono k) (RpL.mono k t)
  | _, _, .dic h n t => .dic (k _ _ h n).1 (k _ _ h n).2 (RpD.mono k t)
theorem RpL.mono (k : Kp A H A' H') : ∀ {v : List V} {d : List PyData}, RpL K A H v d → RpL K A' H' v d
  | _, _, .nil => .nil
  | _, _, .cons h t => .cons (Rp.mono k h) (RpL.mono k t)
theorem RpD.mono (k : Kp A H A' H') : ∀ {v : List (Key × V)} {d : List (PyData × PyData)}, RpD K A H v d → RpD K A' H' v d
  | _, _, .nil => .nil
  | _, _, .cons h t => .cons (Rp.mono k h) (RpD.mono k t)
end
theorem ktup_seq (h : KTup K a xs) : SqT K H a xs := by
  rcases h with (h | ⟨o, h⟩) | h
  · cases h
  · cases h
  · exact .inr h
theorem klst_seq (h : SqL K (fun _ => none) a xs) : SqL K H a xs := by
  rcases h with (h | ⟨o, h⟩) | h
  · cases h
  · cases h
  · exact .inr h
theorem LstAt.seq (h : LstAt A H a xs) : SqL K H a xs := .inl (.inl h.1)
theorem TupAt.seq (h : TupAt K A H a xs) : SqT K H a xs := by
  rcases h with ⟨h | h, _⟩ | h
  · exact .inl (.inl h)
  · exact h.elim
  · exact ktup_seq h
end
section
variable {K : Frg} {A : List Addr} {H : Hp}
theorem RpL.length : ∀ {xs : List V} {ds : List PyData}, RpL K A H xs ds → xs.length = ds.length
  | _, _, .nil => rfl
  | _, _, .cons _ t => by rw [List.length_cons, List.length_cons, RpL.length t]
theorem RpL.get : ∀ {xs : List V} {ds : List PyData} {i : Nat} {d : PyData}, RpL K A H xs ds → ds[i]? = some d → ∃ v, xs[i]? = some v ∧ Rp K A H v d
  | _, _, i, d, .nil, h => by simp at h
  | _, _, 0, d, .cons r _, h => by simp at h; subst h; exact ⟨_, rfl, r⟩
  | _, _, i + 1, d, .cons _ t, h => RpL.get (i := i) t (by simpa using h)
theorem RpL.getV : ∀ {xs : List V} {ds : List PyData} {i : Nat} {v : V}, RpL K A H xs ds → xs[i]? = some v → ∃ d, ds[i]? = some d ∧ Rp K A H v d
  | _, _, i, d, .nil, h => by simp at h
  | _, _, 0, d, .cons r _, h => by simp at h; subst h; exact ⟨_, rfl, r⟩
  | _, _, i + 1, d, .cons _ t, h => RpL.getV (i := i) t (by simpa using h)
theorem RpL.append : ∀ {xs ys : List V} {ds es : List PyData}, RpL K A H xs ds → RpL K A H ys es → RpL K A H (xs ++ ys) (ds ++ es)
  | _, _, _, _, .nil, t => t
  | _, _, _, _, .cons r s, t => .cons r (RpL.append s t)
theorem RpL.take : ∀ {xs : List V} {ds : List PyData} (n : Nat), RpL K A H xs ds → RpL K A H (xs.take n) (ds.take n)
  | _, _, 0, _ => by simp; exact .nil
  | _, _, _ + 1, .nil => by simp; exact .nil
  | _, _, n + 1, .cons r t => .cons r (RpL.take n t)
theorem RpL.drop : ∀ {xs : List V} {ds : List PyData} (n : Nat), RpL K A H xs ds → RpL K A H (xs.drop n) (ds.drop n)
  | _, _, 0, h => h
  | _, _, _ + 1, .nil => by simp; exact .nil
  | _, _, n + 1, .cons _ t => RpL.drop n t
theorem RpL.set {v : V} {d : PyData} (r : Rp K A H v d) : ∀ {xs : List V} {ds : List PyData} (n : Nat), RpL K A H xs ds → RpL K A H (xs.set n v) (ds.set n d)
  | _, _, _, .nil => .nil
  | _, _, 0, .cons _ t => .cons r t
  | _, _, n + 1, .cons q t => .cons q (RpL.set r n t)
theorem RpL.eraseIdx : ∀ {xs : List V} {ds : List PyData} (n : Nat), RpL K A H xs ds → RpL K A H (xs.eraseIdx n) (ds.eraseIdx n)
  | _, _, _, .nil => .nil
  | _, _, 0, .cons _ t => t
  | _, _, n + 1, .cons q t => .cons q (RpL.eraseIdx n t)
theorem RpL.reverse {xs : List V} {ds : List PyData} (h : RpL K A H xs ds) : RpL K A H xs.reverse ds.reverse := by
  induction xs generalizing ds with
  | nil => cases h; exact .nil
  | cons x xs ih => cases h with | cons r t => rw [List.reverse_cons, List.reverse_cons]; exact (ih t).append (.cons r .nil)
theorem RpL.dropLast {xs : List V} {ds : List PyData} (h : RpL K A H xs ds) : RpL K A H xs.dropLast ds.dropLast := by
  rw [List.dropLast_eq_take, List.dropLast_eq_take, h.length]; exact h.take _
theorem RpL.ints : ∀ {xs : List V} {ns : List Int}, RpL K A H xs (ns.map PyData.int) → xs = ns.map V.int
  | _, [], h => by cases h; rfl
  | _, n :: ns, h => by
    have h' : RpL K A H _ (PyData.int n :: ns.map PyData.int) := h
    cases h' with | cons r t => cases r; rw [List.map_cons, RpL.ints t]
theorem RpL.bls : ∀ {xs : List V} {ns : List Bool}, RpL K A H xs (ns.map PyData.bool) → xs = ns.map V.bl
  | _, [], h => by cases h; rfl
  | _, n :: ns, h => by
    have h' : RpL K A H _ (PyData.bool n :: ns.map PyData.bool) := h
    cases h' with | cons r t => cases r; rw [List.map_cons, RpL.bls t]
theorem RpL.of_ints : ∀ (ns : List Int), RpL K A H (ns.map V.int) (ns.map PyData.int)
  | [] => .nil
  | n :: ns => .cons (.int n) (RpL.of_ints ns)
mutual
theorem Rp.dp : ∀ (d : PyData) (v : V), d.canLay0 = true → Rp K A H v d → Dp K H v d
  | .none, _, _, h => by cases h; exact .non
  | .bool b, _, _, h => by cases h; exact .bl b
  | .int i, _, _, h => by cases h; exact .int i
  | .str x, _, _, h => by cases h; exact .str x
  | .list ds, _, c, h => by
    cases h with | lst l t => exact .lst l.seq (RpL.dp ds _ (by simpa [PyData.canLay0] using c) t)
  | .tuple ds, _, c, h => by
    cases h with | tup l t => exact .tup l.seq (RpL.dp ds _ (by simpa [PyData.canLay0] using c) t)
  | .dict _, _, c, _ => by simp [PyData.canLay0] at c
theorem RpL.dp : ∀ (ds : List PyData) (vs : List V), PyData.canLayAll0 ds = true → RpL K A H vs ds → DpAll K H vs ds
  | [], _, _, h => by cases h; exact .nil
  | d :: ds, _, c, h => by
    have c' : d.canLay0 = true ∧ PyData.canLayAll0 ds = true := by simpa [PyData.canLayAll0] using c
    cases h with | cons r t => exact .cons (Rp.dp d _ c'.1 r) (RpL.dp ds _ c'.2 t)
end
end

/-! ### the store -/
/-- the cells' addresses; those of lists that a comprehension is making -/
structure Wd where
  A : List Addr
  P : List Addr
def Wd.V (W : Wd) : List Addr := W.P ++ W.A
def Wd.push (W : Wd) (a : Addr) : Wd := ⟨W.A ++ [a], W.P⟩
def Wd.prot (W : Wd) (a : Addr) : Wd := ⟨W.A, a :: W.P⟩
def Wd.pushs (W : Wd) (as : List Addr) : Wd := ⟨W.A ++ as, W.P⟩
def ItmOk (K : Frg) (W : Wd) (H : Hp) (v : V) : Itm → Prop
  | .d x => Rp K W.V H v x
  | .c n => ∃ a, W.A[n]? = some a ∧ v = .ref a
def CellOk (K : Frg) (W : Wd) (H : Hp) (a : Addr) : Cell → Prop
  | .lst ds => ∃ xs, H a = some (.lst xs) ∧ RpL K W.V H xs ds
  | .dic ps => ∃ kvs, H a = some (.dK kvs) ∧ RpD K W.V H kvs ps
  | .rcd ps => ∃ kvs : List (Key × V), H a = some (.dK kvs) ∧ Paired (fun p q => p.1 = q.1 ∧ ItmOk K W H p.2 q.2) kvs ps
  | .nls ds => ∃ xs, H a = some (.lst xs) ∧ Paired (ItmOk K W H) xs ds
  | .ins C ps => ∃ dx fs, H a = some (.ins C dx fs) ∧ Paired (fun p q => p.1 = q.1 ∧ ItmOk K W H p.2 q.2) fs ps
  | .dtp ps => ∃ kvs : List (List Key × V), H a = some (.dT kvs) ∧ Paired (fun p q => p.1 = [.inl q.1.1, .inl q.1.2] ∧ Rp K W.V H p.2 q.2) kvs ps
structure Wf (K : Frg) (W : Wd) (S : Sto) (H : Hp) : Prop where
  len : W.A.length = S.length
  nd : W.A.Nodup
  lt : ∀ (n : Nat) (k : Cell), S[n]? = some k → k.lt n = true
  ok : ∀ (n : Nat) (a : Addr) (k : Cell), W.A[n]? = some a → S[n]? = some k → CellOk K W H a k
  pr : ∀ p ∈ W.P, p ∉ W.A ∧ ∃ o, H p = some o ∧ Mut (some o)
def Rv (K : Frg) (W : Wd) (H : Hp) (v : V) : Val → Prop
  | .d x => Rp K W.V H v x
  | .c n => ∃ a, W.A[n]? = some a ∧ v = .ref a
  | .f _ => False
  | .g _ _ => False
  | .x => ∃ a, v = .ref a
  | .z ds => ∃ a xs, v = .ref a ∧ ((Rd H a (.lst xs) ∧ a ∉ W.V) ∨ SqL K (fun _ => none) a xs) ∧ RpL K W.V H xs ds
structure REnv (K : Frg) (W : Wd) (H : Hp) (ρ : Envi) (σ : L2.St) : Prop where
  len : σ.length = ρ.length
  get : ∀ (i : Nat) (v : Val), ρ[i]? = some (some v) → ∃ x, σ[i]? = some (some x) ∧ Rv K W H x v
structure Ext (W : Wd) (H : Hp) (W' : Wd) (H' : Hp) : Prop where
  pr : W'.P = W.P
  pre : ∃ B, W'.A = W.A ++ B
  new : ∀ a ∈ W'.A, a ∈ W.A ∨ H a = none
  keep : ∀ b o, H b = some o → b ∉ W.A → H' b = some o
section
variable {K : Frg} {W W' W2 : Wd} {H H' H2 : Hp} {a : Addr} {S S' : Sto} {ρ : Envi} {σ : L2.St}
theorem Wd.mem {b : Addr} : b ∈ W.V ↔ b ∈ W.P ∨ b ∈ W.A := List.mem_append
theorem Ext.kp (e : Ext W H W' H') : Kp W.V H W'.V H' := fun b o h n => by
  rw [Wd.mem, not_or] at n
  refine ⟨e.keep b o h n.2, fun m => ?_⟩
  rcases Wd.mem.mp m with q | q
  · rw [e.pr] at q; exact n.1 q
  · rcases e.new b q with q | q
    · exact n.2 q
    · rw [h] at q; cases q
theorem Ext.refl : Ext W H W H := ⟨rfl, ⟨[], by simp⟩, fun _ h => .inl h, fun _ _ h _ => h⟩
theorem Ext.offA (e : Ext W H W' H') {b : Addr} {o : HO} (h : H b = some o) (n : b ∉ W.A) : b ∉ W'.A := fun q => by
  rcases e.new b q with q | q
  · exact n q
  · rw [h] at q; cases q
theorem Ext.trans (e : Ext W H W' H') (f : Ext W' H' W2 H2) : Ext W H W2 H2 := by
  refine ⟨f.pr.trans e.pr, ?_, fun a h => ?_, fun b o h n => f.keep b o (e.keep b o h n) (e.offA h n)⟩
  · obtain ⟨B, h1⟩ := e.pre
    obtain ⟨C, h2⟩ := f.pre
    exact ⟨B ++ C, by rw [h2, h1, List.append_assoc]⟩
  · rcases f.new a h with q | q
    · exact e.new a q
    · cases r : H a with
      | none => exact .inr rfl
      | some o =>
        by_cases m : a ∈ W.A
        · exact .inl m
        · rw [e.keep a o r m] at q; cases q
theorem Ext.at_ (e : Ext W H W' H') {n : Nat} (h : W.A[n]? = some a) : W'.A[n]? = some a := by
  obtain ⟨B, e1⟩ := e.pre
  rw [e1, List.getElem?_append_left (List.getElem?_eq_some_iff.mp h).1]; exact h
theorem Rv.mono {v : V} {x : Val} (e : Ext W H W' H') (r : Rv K W H v x) : Rv K W' H' v x := by
  cases x with
  | d x => exact Rp.mono e.kp r
  | c n => obtain ⟨a, h, rfl⟩ := r; exact ⟨a, e.at_ h, rfl⟩
  | f k => exact r
  | g cs i => exact r
  | x => exact r
  | z ds => obtain ⟨a, xs, rfl, h, t⟩ := r; exact ⟨a, xs, rfl, h.imp (fun q => e.kp.rd q.1 q.2) id, t.mono e.kp⟩
theorem REnv.mono (e : Ext W H W' H') (r : REnv K W H ρ σ) : REnv K W' H' ρ σ := ⟨r.len, fun i v h => by
  obtain ⟨x, h1, h2⟩ := r.get i v h
  exact ⟨x, h1, h2.mono e⟩⟩
theorem Wf.there (w : Wf K W S H) (h : a ∈ W.V) : ∃ o, H a = some o ∧ Mut (some o) := by
  rcases Wd.mem.mp h with h | h
  · obtain ⟨_, xs, q, mt⟩ := w.pr a h
    exact ⟨_, q, mt⟩
  obtain ⟨n, hn, e⟩ := List.mem_iff_getElem.mp h
  have hs : n < S.length := by rw [← w.len]; exact hn
  have q := w.ok n a S[n] (by rw [List.getElem?_eq_getElem hn, e]) (List.getElem?_eq_getElem hs)
  cases hk : S[n] with
  | lst ds => rw [hk] at q; obtain ⟨xs, h, _⟩ := q; exact ⟨_, h, trivial⟩
  | dic ds => rw [hk] at q; obtain ⟨xs, h, _⟩ := q; exact ⟨_, h, trivial⟩
  | rcd ds => rw [hk] at q; obtain ⟨xs, h, _⟩ := q; exact ⟨_, h, trivial⟩
  | nls ds => rw [hk] at q; obtain ⟨xs, h, _⟩ := q; exact ⟨_, h, trivial⟩
  | ins C ds => rw [hk] at q; obtain ⟨dx, fs, h, _⟩ := q; exact ⟨_, h, trivial⟩
  | dtp ds => rw [hk] at q; obtain ⟨xs, h, _⟩ := q; exact ⟨_, h, trivial⟩
theorem Wf.off (w : Wf K W S H) (h : H a = none) : a ∉ W.V := fun m => by
  obtain ⟨o, q, _⟩ := w.there m
  rw [h] at q; cases q
theorem Wf.offA (w : Wf K W S H) (h : H a = none) : a ∉ W.A := fun m => w.off h (Wd.mem.mpr (.inr m))
theorem Ext.free (e : Ext W H W' H') (w : Wf K W' S' H') (h : H' a = none) : H a = none := by
  cases q : H a with
  | none => rfl
  | some o =>
    exfalso
    by_cases m : a ∈ W.A
    · obtain ⟨B, e1⟩ := e.pre
      exact w.offA h (by rw [e1]; exact List.mem_append_left _ m)
    · rw [e.keep a o q m] at h; cases h
/-- a new thing is laid -/
theorem Ext.laid {o : HO} (h : H a = none) : Ext W H W (upd H a o) := ⟨rfl, ⟨[], by simp⟩, fun _ h => .inl h, fun b u e _ => by rw [upd_ne (ne_of_none e h)]; exact e⟩
theorem ItmOk.mono {m : Nat} {v : V} {i : Itm} (e : Kp W.V H W'.V H') (hl : i.lt m = true) (hi : ∀ j b, j < m → W.A[j]? = some b → W'.A[j]? = some b) (r : ItmOk K W H v i) : ItmOk K W' H' v i := by
  cases i with
  | d x => exact Rp.mono e r
  | c n => obtain ⟨a, h, rfl⟩ := r; exact ⟨a, hi n a (of_decide_eq_true hl) h, rfl⟩
theorem paired_all {α β : Type} {R R' : α → β → Prop} {p : β → Bool} (h : ∀ x y, p y = true → R x y → R' x y) : ∀ {xs : List α} {ys : List β}, ys.all p = true → Paired R xs ys → Paired R' xs ys
  | _, _, _, .nil => .nil
  | _, y :: ys, q, .cons r t => by
    rw [List.all_cons, Bool.and_eq_true] at q
    exact .cons (h _ _ q.1 r) (paired_all h q.2 t)
theorem CellOk.mono {k : Cell} {m : Nat} (e : Kp W.V H W'.V H') (hk : ∀ o, H a = some o → H' a = some o) (c : CellOk K W H a k) (hl : k.lt m = true) (hi : ∀ j b, j < m → W.A[j]? = some b → W'.A[j]? = some b) : CellOk K W' H' a k := by
  cases k with
  | lst ds => obtain ⟨xs, h, r⟩ := c; exact ⟨xs, hk _ h, r.mono e⟩
  | dic ds => obtain ⟨xs, h, r⟩ := c; exact ⟨xs, hk _ h, r.mono e⟩
  | rcd ds => obtain ⟨xs, h, r⟩ := c; exact ⟨xs, hk _ h, paired_all (p := fun q : Key × Itm => q.2.lt m) (fun _ _ q r => ⟨r.1, r.2.mono e q hi⟩) hl r⟩
  | nls ds => obtain ⟨xs, h, r⟩ := c; exact ⟨xs, hk _ h, paired_all (fun _ _ q r => r.mono e q hi) hl r⟩
  | ins C ds => obtain ⟨dx, xs, h, r⟩ := c; exact ⟨dx, xs, hk _ h, paired_all (p := fun q : Str × Itm => q.2.lt m) (fun _ _ q r => ⟨r.1, r.2.mono e q hi⟩) hl r⟩
  | dtp ds => obtain ⟨xs, h, r⟩ := c; exact ⟨xs, hk _ h, Paired.mapP r fun _ _ z => ⟨z.1, z.2.mono e⟩⟩
theorem Wf.laid (w : Wf K W S H) {o : HO} (h : H a = none) : Wf K W S (upd H a o) := ⟨w.len, w.nd, w.lt, fun n b k h1 h2 =>
  (w.ok n b k h1 h2).mono (Ext.laid h).kp (fun u e => by rw [upd_ne (ne_of_none e h)]; exact e) (w.lt n k h2) (fun _ _ _ h => h), fun p hp => by
    obtain ⟨q, xs, e, mt⟩ := w.pr p hp
    exact ⟨q, xs, by rw [upd_ne (ne_of_none e h)]; exact e, mt⟩⟩
theorem kp_less (h : ∀ b, b ∈ W'.V → b ∈ W.V) : Kp W.V H W'.V H := fun b _ q n => ⟨q, fun m => n (h b m)⟩
theorem push_V {b : Addr} : b ∈ (W.push a).V ↔ b ∈ W.V ∨ b = a := by
  rw [Wd.mem, Wd.mem]
  show b ∈ W.P ∨ b ∈ W.A ++ [a] ↔ _
  rw [List.mem_append, List.mem_singleton, or_assoc]
theorem prot_V {b : Addr} : b ∈ (W.prot a).V ↔ b ∈ W.V ∨ b = a := by
  rw [Wd.mem, Wd.mem]
  show b ∈ a :: W.P ∨ b ∈ W.A ↔ _
  rw [List.mem_cons]
  constructor
  · rintro ((h | h) | h)
    · exact .inr h
    · exact .inl (.inl h)
    · exact .inl (.inr h)
  · rintro ((h | h) | h)
    · exact .inl (.inr h)
    · exact .inr h
    · exact .inl (.inl h)
/-- one more cell -/
theorem Wf.drop1 {k : Cell} (w : Wf K (W.push a) (S ++ [k]) H) : Wf K W S H ∧ CellOk K W H a k ∧ a ∉ W.V := by
  have hl : W.A.length = S.length := by simpa [Wd.push] using w.len
  have ix : ∀ m, m ≤ S.length → ∀ j b, j < m → (W.push a).A[j]? = some b → W.A[j]? = some b := fun m hm j b hj h => by
    have h : (W.A ++ [a])[j]? = some b := h
    rwa [List.getElem?_append_left (by omega)] at h
  have lt1 : ∀ (n : Nat) (k' : Cell), S[n]? = some k' → (S ++ [k])[n]? = some k' := fun n k' h => by
    rw [List.getElem?_append_left (List.getElem?_eq_some_iff.mp h).1]; exact h
  have ka : Kp (W.push a).V H W.V H := kp_less fun b m => push_V.mpr (.inl m)
  have nd := w.nd
  unfold Wd.push at nd
  dsimp only at nd
  rw [List.nodup_append] at nd
  refine ⟨⟨hl, nd.1, fun n k' h => w.lt n k' (lt1 n k' h), fun n b u h1 h2 => ?_, fun p hp => ?_⟩, ?_, fun m => ?_⟩
  · have hn := (List.getElem?_eq_some_iff.mp h2).1
    refine (w.ok n b u ?_ ?_).mono ka (fun _ h => h) (w.lt n u (lt1 n u h2)) (ix n (Nat.le_of_lt hn))
    · show (W.A ++ [a])[n]? = _
      rw [List.getElem?_append_left (List.getElem?_eq_some_iff.mp h1).1]; exact h1
    · exact lt1 n u h2
  · obtain ⟨q, r⟩ := w.pr p hp
    exact ⟨fun m => q (List.mem_append_left _ m), r⟩
  · have e : (S ++ [k])[W.A.length]? = some k := by rw [hl]; simp
    exact (w.ok W.A.length a k (by simp [Wd.push]) e).mono ka (fun _ h => h) (w.lt _ k e) (ix _ (Nat.le_of_eq hl))
  · rcases Wd.mem.mp m with m | m
    · exact (w.pr a m).1 (List.mem_append_right _ (by simp))
    · exact nd.2.2 a m a (by simp) rfl
theorem Cell.th {k : Cell} (c : CellOk K W H a k) (n : a ∉ W.V) : Rv K W H (.ref a) (Val.f k).th := by
  cases k with
  | lst ds => obtain ⟨xs, h, r⟩ := c; exact Rp.lst ⟨h, n⟩ r
  | dic ds => obtain ⟨xs, h, r⟩ := c; exact Rp.dic h n r
  | rcd ds => exact ⟨a, rfl⟩
  | nls ds => exact ⟨a, rfl⟩
  | ins C ds => exact ⟨a, rfl⟩
  | dtp ds => exact ⟨a, rfl⟩
theorem Ext.push (h : H a = none) (w : Wf K W S H) {o : HO} : Ext W H (W.push a) (upd H a o) := by
  refine ⟨rfl, ⟨[a], rfl⟩, fun b m => ?_, fun b u e _ => by rw [upd_ne (ne_of_none e h)]; exact e⟩
  rcases List.mem_append.mp m with m | m
  · exact .inl m
  · rw [List.mem_singleton.mp m]; exact .inr h
theorem Ext.grow (e : Ext W H W H') (h : H a = none) : Ext W H (W.push a) H' := by
  refine ⟨rfl, ⟨[a], rfl⟩, fun b m => ?_, e.keep⟩
  rcases List.mem_append.mp m with m | m
  · exact .inl m
  · rw [List.mem_singleton.mp m]; exact .inr h
/-- a new cell is laid -/
theorem lt_push {k : Cell} (lt : ∀ (n : Nat) (k : Cell), S[n]? = some k → k.lt n = true) (hk : k.lt S.length = true) (n : Nat) (u : Cell) (h : (S ++ [k])[n]? = some u) : u.lt n = true := by
  by_cases hn : n < S.length
  · rw [List.getElem?_append_left hn] at h; exact lt n u h
  · have e : n = S.length := by
      have := (List.getElem?_eq_some_iff.mp h).1
      simp at this
      omega
    subst e
    simp at h
    subst h
    exact hk
theorem ix_push {m : Nat} (j : Nat) (b : Addr) (h : W.A[j]? = some b) : (W.push a).A[j]? = some b := by
  show (W.A ++ [a])[j]? = some b
  rw [List.getElem?_append_left (List.getElem?_eq_some_iff.mp h).1]; exact h
theorem Wf.new {k : Cell} {o : HO} (w : Wf K W S H) (h : H a = none) (c : CellOk K (W.push a) (upd1 H a o) a k) (hk : k.lt S.length = true := by rfl) : Wf K (W.push a) (S ++ [k]) (upd1 H a o) := by
  refine ⟨by simp [Wd.push, w.len], ?_, lt_push w.lt hk, fun n b u h1 h2 => ?_, fun p hp => ?_⟩
  · show (W.A ++ [a]).Nodup
    rw [List.nodup_append]
    exact ⟨w.nd, by simp, fun x hx y hy e => by rw [List.mem_singleton.mp hy] at e; exact w.offA h (e ▸ hx)⟩
  · have h1' : (W.A ++ [a])[n]? = some b := h1
    by_cases hn : n < W.A.length
    · rw [List.getElem?_append_left hn] at h1'
      rw [List.getElem?_append_left (by rw [← w.len]; exact hn)] at h2
      refine (w.ok n b u h1' h2).mono (Ext.push h w).kp (fun v q => ?_) (w.lt n u h2) fun j b _ h => ix_push (m := n) j b h
      rw [show upd1 H a o = upd H a o from rfl, upd_ne (ne_of_none q h)]; exact q
    · have e : n = W.A.length := by
        have := (List.getElem?_eq_some_iff.mp h1').1
        simp at this
        omega
      subst e
      rw [w.len] at h2
      simp at h1' h2
      subst h1' h2
      exact c
  · obtain ⟨q, xs, e, mt⟩ := w.pr p hp
    refine ⟨fun m => ?_, xs, by rw [show upd1 H a o = upd H a o from rfl, upd_ne (ne_of_none e h)]; exact e, mt⟩
    rcases List.mem_append.mp m with m | m
    · exact q m
    · rw [List.mem_singleton.mp m, h] at e; cases e
/-- a cell is changed -/
theorem kp_upd {o : HO} (m : a ∈ W.A) : Kp W.V H W.V (upd H a o) := fun b u h n => ⟨by rw [upd_ne (fun e => n (by rw [e]; exact Wd.mem.mpr (.inr m)))]; exact h, n⟩
theorem Wf.upd {n : Nat} {o : HO} {k : Cell} (w : Wf K W S H) (h : W.A[n]? = some a) (c : CellOk K W (upd H a o) a k) (hk : k.lt n = true := by rfl) : Wf K W (S.set n k) (upd H a o) := by
  have m : a ∈ W.A := List.mem_of_getElem? h
  refine ⟨by rw [List.length_set]; exact w.len, w.nd, fun j u h2 => ?_, fun j b u h1 h2 => ?_, fun p hp => ?_⟩
  · by_cases e : j = n
    · subst e
      rw [List.getElem?_set_self (by have := (List.getElem?_eq_some_iff.mp h2).1; rwa [List.length_set] at this)] at h2
      cases h2; exact hk
    · rw [List.getElem?_set_ne (Ne.symm e)] at h2
      exact w.lt j u h2
  · by_cases e : j = n
    · subst e
      rw [h] at h1; cases h1
      rw [List.getElem?_set_self (by have := (List.getElem?_eq_some_iff.mp h).1; rw [← w.len]; exact this)] at h2
      cases h2; exact c
    · rw [List.getElem?_set_ne (Ne.symm e)] at h2
      refine (w.ok j b u h1 h2).mono (kp_upd m) (fun v q => ?_) (w.lt j u h2) fun _ _ _ h => h
      have hb : b ≠ a := fun z => by
        subst z
        exact e ((List.getElem?_inj (List.getElem?_eq_some_iff.mp h1).1 w.nd).mp (h1.trans h.symm))
      rw [upd_ne hb]; exact q
  · obtain ⟨q, xs, e, mt⟩ := w.pr p hp
    exact ⟨q, xs, by rw [upd_ne (fun z => q (by rw [z]; exact m))]; exact e, mt⟩
theorem Ext.upd {o : HO} (m : a ∈ W.A) : Ext W H W (upd H a o) := ⟨rfl, ⟨[], by simp⟩, fun _ h => .inl h, fun b u h n => by rw [upd_ne (fun z => n (by rw [z]; exact m))]; exact h⟩
/-- at a def's end: its own cells go -/
theorem Ext.less {B : List Addr} (e : Ext W H W' H') : Ext W H W H' := ⟨rfl, ⟨[], by simp⟩, fun _ h => .inl h, e.keep⟩
theorem Wf.less (w : Wf K W' S H') (e : Ext W H W' H') : Wf K W (S.take W.A.length) H' := by
  obtain ⟨B, h1⟩ := e.pre
  have ka : Kp W'.V H' W.V H' := kp_less fun b m => by
    rw [Wd.mem] at m ⊢
    rw [e.pr, h1]
    exact m.imp id fun m => List.mem_append_left _ m
  have hl : W.A.length ≤ S.length := by rw [← w.len, h1]; simp
  have nd := w.nd
  rw [h1] at nd
  have tk : ∀ (n : Nat) (u : Cell), (S.take W.A.length)[n]? = some u → n < W.A.length ∧ S[n]? = some u := fun n u h3 => by
    have hn := (List.getElem?_eq_some_iff.mp h3).1
    rw [List.length_take] at hn
    rw [List.getElem?_take_of_lt (by omega)] at h3
    exact ⟨by omega, h3⟩
  refine ⟨by rw [List.length_take]; omega, (List.nodup_append.mp nd).1, fun n u h3 => w.lt n u (tk n u h3).2, fun n b u h2 h3 => ?_, fun p hp => ?_⟩
  · obtain ⟨hn, h4⟩ := tk n u h3
    refine (w.ok n b u ?_ h4).mono ka (fun _ h => h) (w.lt n u h4) fun j c hj h => ?_
    · rw [h1, List.getElem?_append_left hn]; exact h2
    · rw [h1, List.getElem?_append_left (by omega)] at h; exact h
  · obtain ⟨q, r⟩ := w.pr p (by rw [e.pr]; exact hp)
    exact ⟨fun m => q (by rw [h1]; exact List.mem_append_left _ m), r⟩
/-- .. but one that is handed on -/
theorem Wf.pick {j : Nat} {k : Cell} (w : Wf K W' S H') (e : Ext W H W' H') (hj : W.A.length ≤ j) (h : W'.A[j]? = some a) (hk : S[j]? = some k) (hlk : k.lt W.A.length = true) : Wf K (W.push a) (S.take W.A.length ++ [k]) H' ∧ H a = none := by
  obtain ⟨B, h1⟩ := e.pre
  have hw := w.less e
  have na : a ∉ W.A := fun m => by
    obtain ⟨n, hn, q⟩ := List.mem_iff_getElem.mp m
    have z : W'.A[n]? = some a := by rw [h1, List.getElem?_append_left hn, List.getElem?_eq_getElem hn, q]
    have := (List.getElem?_inj (by rw [h1, List.length_append]; omega) w.nd).mp (z.trans h.symm)
    omega
  have ma : a ∈ W'.A := List.mem_of_getElem? h
  have ix : ∀ m, m ≤ W.A.length → ∀ j b, j < m → W'.A[j]? = some b → (W.push a).A[j]? = some b := fun m hm j b hj h => by
    rw [h1, List.getElem?_append_left (by omega)] at h
    exact ix_push (m := m) j b h
  refine ⟨⟨by simp [Wd.push, ← hw.len], ?_, lt_push hw.lt (by rw [← hw.len]; exact hlk), fun n b u h2 h3 => ?_, fun p hp => ?_⟩, ?_⟩
  · show (W.A ++ [a]).Nodup
    rw [List.nodup_append]
    exact ⟨hw.nd, by simp, fun x hx y hy e => by rw [List.mem_singleton.mp hy] at e; exact na (e ▸ hx)⟩
  · have kp : Kp W'.V H' (W.push a).V H' := kp_less fun b m => by
      rw [push_V, Wd.mem] at m
      rw [Wd.mem, e.pr, h1]
      rcases m with (m | m) | m
      · exact .inl m
      · exact .inr (List.mem_append_left _ m)
      · rw [m, ← h1]; exact .inr ma
    have h2' : (W.A ++ [a])[n]? = some b := h2
    by_cases hn : n < W.A.length
    · rw [List.getElem?_append_left hn] at h2'
      rw [List.getElem?_append_left (by rw [← hw.len]; exact hn), List.getElem?_take_of_lt hn] at h3
      exact (w.ok n b u (by rw [h1, List.getElem?_append_left hn]; exact h2') h3).mono kp (fun _ h => h) (w.lt n u h3) (ix n (Nat.le_of_lt hn))
    · have e2 : n = W.A.length := by
        have := (List.getElem?_eq_some_iff.mp h2').1
        simp at this
        omega
      subst e2
      rw [List.getElem?_append_right (by rw [← hw.len]; exact Nat.le_refl _), ← hw.len] at h3
      simp at h2' h3
      subst h2' h3
      exact (w.ok j a k h hk).mono kp (fun _ h => h) hlk (ix _ (Nat.le_refl _))
  · obtain ⟨q, r⟩ := w.pr p (by rw [e.pr]; exact hp)
    refine ⟨fun m => ?_, r⟩
    rcases List.mem_append.mp m with m | m
    · exact q (by rw [h1]; exact List.mem_append_left _ m)
    · rw [List.mem_singleton.mp m] at q; exact q ma
  · rcases e.new a ma with q | q
    · exact (na q).elim
    · exact q
end
end MV
set_option Elab.async false
set_option linter.all false
set_option maxRecDepth 100000
/-! Readings by mirrors: expressions, arguments, tests, statements. -/
namespace MV
open PySem PySem.Spec PyProof.Rows L2

/-! ### ends -/
def Post (K : Frg) (A : Wd) (H : Hp) (Q : VK) : Res Val → Prop
  | .ok (.d x) S => ∀ v H', Ext A H A H' → Wf K A S H' → Rp K A.V H' v x → Q v H'
  | .ok (.c n) S => ∀ a H', Ext A H A H' → Wf K A S H' → A.A[n]? = some a → Q (.ref a) H'
  | .ok (.f k) S => ∀ a H', Ext A H A H' → Wf K (A.push a) (S ++ [k]) H' → H a = none → Q (.ref a) H'
  | .ok (.z ds) S => ∀ v H', Ext A H A H' → Wf K A S H' → Rv K A H' v (.z ds) → Q v H'
  | .ok (.g cs i) S => ∀ as a H', Ext A H A H' → Wf K (A.pushs as) (S ++ cs) H' → (∀ b ∈ as, H b = none) → as.length = cs.length → as[i]? = some a → Q (.ref a) H'
  | .ok .x S => ∀ a H', Ext A H A H' → Wf K A S H' → Q (.ref a) H'
  | .exc _ _ => False
  | .no => False
def RvL (K : Frg) (A : Wd) (H : Hp) : List V → List Val → Prop := Paired (Rv K A H)
def PostA (K : Frg) (A : Wd) (H : Hp) (Q : List V → Hp → Prop) : Res (List Val) → Prop
  | .ok vs S => ∀ xs H', Ext A H A H' → Wf K A S H' → RvL K A H' xs vs → Q xs H'
  | .exc _ _ => False
  | .no => False
def PostB (K : Frg) (A : Wd) (H : Hp) (Q : Bool → Hp → Prop) : Res Bool → Prop
  | .ok b S => ∀ H', Ext A H A H' → Wf K A S H' → Q b H'
  | .exc _ _ => False
  | .no => False
inductive Fw where
  | nx (ρ : Envi)
  | rt (v : Val)
  | bk (ρ : Envi)
  | ct (ρ : Envi)
def PostR (K : Frg) (A : Wd) (S : Sto) (H : Hp) (Q : VK) : Val → Prop
  | .d x => ∀ A' v H', Ext A H A' H' → Wf K A' S H' → Rp K A'.V H' v x → Q v H'
  | .c n => ∀ A' a H', Ext A H A' H' → Wf K A' S H' → A'.A[n]? = some a → Q (.ref a) H'
  | .f k => ∀ A' a H', Ext A H A' H' → Wf K (A'.push a) (S ++ [k]) H' → H a = none → Q (.ref a) H'
  | .z ds => ∀ A' v H', Ext A H A' H' → Wf K A' S H' → Rv K A' H' v (.z ds) → Q v H'
  | .g cs i => ∀ A' as a H', Ext A H A' H' → Wf K (A'.pushs as) (S ++ cs) H' → (∀ b ∈ as, H b = none) → as.length = cs.length → as[i]? = some a → Q (.ref a) H'
  | .x => ∀ A' a H', Ext A H A' H' → Wf K A' S H' → Q (.ref a) H'
theorem Ext.grows {K : Frg} {W : Wd} {H H' : Hp} {as : List Addr} (e : Ext W H W H') (h : ∀ b ∈ as, H b = none) : Ext W H (W.pushs as) H' := by
  refine ⟨rfl, ⟨as, rfl⟩, fun b m => ?_, e.keep⟩
  rcases List.mem_append.mp m with m | m
  · exact .inl m
  · exact .inr (h b m)
theorem Wf.drops {K : Frg} {W : Wd} {H H' : Hp} {S cs : Sto} {as : List Addr} (w : Wf K (W.pushs as) (S ++ cs) H') (e : Ext W H W H') (h : ∀ b ∈ as, H b = none) (hl : as.length = cs.length) : Wf K W S H' := by
  have z := w.less (e.grows (K := K) h)
  have l := w.len
  have l2 : W.A.length = S.length := by
    simp [Wd.pushs] at l
    omega
  rw [l2, List.take_left' rfl] at z
  exact z
def PostS (K : Frg) (A : Wd) (H : Hp) (D : Ends) : Res Fw → Prop
  | .ok (.nx ρ) S => ∀ A' σ' H', Ext A H A' H' → Wf K A' S H' → REnv K A' H' ρ σ' → D.nx σ' H'
  | .ok (.bk ρ) S => ∀ A' σ' H', Ext A H A' H' → Wf K A' S H' → REnv K A' H' ρ σ' → D.bk σ' H'
  | .ok (.ct ρ) S => ∀ A' σ' H', Ext A H A' H' → Wf K A' S H' → REnv K A' H' ρ σ' → D.ct σ' H'
  | .ok (.rt v) S => PostR K A S H D.rt v
  | .exc _ _ => False
  | .no => False
section
variable {K : Frg} {A A' A2 : Wd} {H H' H2 : Hp} {S S' : Sto} {Q Q' : VK} {ρ : Envi} {σ : L2.St} {D : Ends}
theorem RvL.mono {xs : List V} {vs : List Val} (e : Ext A H A' H') (r : RvL K A H xs vs) : RvL K A' H' xs vs := Paired.mapP r fun _ _ h => h.mono e
/-- an end, whatever the value: its thing -/
theorem Post.th {v : Val} (h : ∀ x H', Ext A H A H' → Wf K A S H' → Rv K A H' x v.th → Q x H') : Post K A H Q (.ok v S) := by
  cases v with
  | d x => exact fun v H' e w r => h v H' e w r
  | c n => exact fun a H' e w r => h _ H' e w ⟨a, r, rfl⟩
  | f k => exact fun a H' e w r => h _ H' e w.drop1.1 (Cell.th w.drop1.2.1 w.drop1.2.2)
  | z ds => exact fun v H' e w r => h v H' e w r
  | g cs i => exact fun as a H' e w q l _ => h _ H' e (w.drops e q l) ⟨a, rfl⟩
  | x => exact fun a H' e w => h _ H' e w ⟨a, rfl⟩
theorem Post.seq {β : Type} {P : Res β → Prop} {r : Res Val} {g : Val → Sto → Res β} (h : P (r.bind g)) (h0 : P .no → False) (h1 : ∀ e S, P (.exc e S) → False)
    (k : ∀ v S1 x H1, Ext A H A H1 → Wf K A S1 H1 → Rv K A H1 x v.th → P (g v S1) → Q x H1) : Post K A H Q r := by
  cases r with
  | ok v S1 => exact Post.th fun x H1 e w r => k v S1 x H1 e w r h
  | exc e S => exact (h1 _ _ h).elim
  | no => exact (h0 h).elim
theorem PostA.seq {β : Type} {P : Res β → Prop} {Q : List V → Hp → Prop} {r : Res (List Val)} {g : List Val → Sto → Res β} (h : P (r.bind g)) (h0 : P .no → False) (h1 : ∀ e S, P (.exc e S) → False)
    (k : ∀ v S1 x H1, Ext A H A H1 → Wf K A S1 H1 → RvL K A H1 x v → P (g v S1) → Q x H1) : PostA K A H Q r := by
  cases r with
  | ok v S1 => exact fun x H1 e w r => k v S1 x H1 e w r h
  | exc e S => exact (h1 _ _ h).elim
  | no => exact (h0 h).elim
theorem PostB.seq {β : Type} {P : Res β → Prop} {Q : Bool → Hp → Prop} {r : Res Bool} {g : Bool → Sto → Res β} (h : P (r.bind g)) (h0 : P .no → False) (h1 : ∀ e S, P (.exc e S) → False)
    (k : ∀ v S1 H1, Ext A H A H1 → Wf K A S1 H1 → P (g v S1) → Q v H1) : PostB K A H Q r := by
  cases r with
  | ok v S1 => exact fun H1 e w => k v S1 H1 e w h
  | exc e S => exact (h1 _ _ h).elim
  | no => exact (h0 h).elim
theorem Post.shift {r : Res Val} (h : Post K A H Q r) (e : Ext A H A H2) (w : Wf K A S H2) : Post K A H2 Q r := by
  cases r with
  | ok v S1 =>
    cases v with
    | d x => exact fun v H' e' w' r => h v H' (e.trans e') w' r
    | c n => exact fun a H' e' w' r => h a H' (e.trans e') w' r
    | f k => exact fun a H' e' w' r => h a H' (e.trans e') w' (e.free w r)
    | z ds => exact fun v H' e' w' r => h v H' (e.trans e') w' r
    | g cs i => exact fun as a H' e' w' q l j => h as a H' (e.trans e') w' (fun b hb => e.free w (q b hb)) l j
    | x => exact fun v H' e' w' => h v H' (e.trans e') w'
  | exc _ _ => exact h
  | no => exact h
theorem PostA.shift {Q : List V → Hp → Prop} {r : Res (List Val)} (h : PostA K A H Q r) (e : Ext A H A H2) : PostA K A H2 Q r := by
  cases r with
  | ok v S1 => exact fun v H' e' w' r => h v H' (e.trans e') w' r
  | exc _ _ => exact h
  | no => exact h
theorem PostB.shift {Q : Bool → Hp → Prop} {r : Res Bool} (h : PostB K A H Q r) (e : Ext A H A H2) : PostB K A H2 Q r := by
  cases r with
  | ok v S1 => exact fun H' e' w' => h H' (e.trans e') w'
  | exc _ _ => exact h
  | no => exact h
theorem PostR.shift {v : Val} {Q : VK} (h : PostR K A S H Q v) (e : Ext A H A2 H2) (w : Wf K A2 S' H2) : PostR K A2 S H2 Q v := by
  cases v with
  | d x => exact fun A' v H' e' w' r => h A' v H' (e.trans e') w' r
  | c n => exact fun A' a H' e' w' r => h A' a H' (e.trans e') w' r
  | f k => exact fun A' a H' e' w' r => h A' a H' (e.trans e') w' (e.free w r)
  | z ds => exact fun A' v H' e' w' r => h A' v H' (e.trans e') w' r
  | g cs i => exact fun A' as a H' e' w' q l j => h A' as a H' (e.trans e') w' (fun b hb => e.free w (q b hb)) l j
  | x => exact fun A' v H' e' w' => h A' v H' (e.trans e') w'
theorem PostS.shift {r : Res Fw} (h : PostS K A H D r) (e : Ext A H A2 H2) (w : Wf K A2 S H2) : PostS K A2 H2 D r := by
  cases r with
  | ok f S1 =>
    cases f with
    | nx ρ => exact fun A' v H' e' w' r => h A' v H' (e.trans e') w' r
    | bk ρ => exact fun A' v H' e' w' r => h A' v H' (e.trans e') w' r
    | ct ρ => exact fun A' v H' e' w' r => h A' v H' (e.trans e') w' r
    | rt v => exact PostR.shift (v := v) h e w
  | exc _ _ => exact h
  | no => exact h
end

/-! ### readings -/
abbrev Sx := Envi → Sto → Res Val
abbrev SA := Envi → Sto → Res (List Val)
abbrev SB := Envi → Sto → Res Bool
abbrev Ss := Envi → Sto → Res Fw
def At (K : Frg) (σ : L2.St) (H : Hp) (P : Wd → Envi → Sto → Prop) : Prop := ∃ A S ρ, Wf K A S H ∧ REnv K A H ρ σ ∧ P A ρ S
def tE (K : Frg) (f : Sx) : TE := fun σ H Q => At K σ H fun A ρ S => Post K A H Q (f ρ S)
def tAr (K : Frg) (f : SA) : TA := fun σ H Q => At K σ H fun A ρ S => PostA K A H Q (f ρ S)
def tB (K : Frg) (f : SB) : TT := fun σ H Q => At K σ H fun A ρ S => PostB K A H Q (f ρ S)
def tS (K : Frg) (f : Ss) : TS := fun D σ H => At K σ H fun A ρ S => PostS K A H D (f ρ S)
section
variable {X : Cx}
theorem PEi {e : Expr} {t t' : TE} (h : PE X e t) (i : ∀ σ H Q, t' σ H Q → t σ H Q) : PE X e t' := ⟨fun pins s σ H Q I q => h.run pins s σ H Q I (i σ H Q q)⟩
theorem PTi {e : Expr} {t t' : TT} (h : PT X e t) (i : ∀ σ H Q, t' σ H Q → t σ H Q) : PT X e t' := ⟨fun pins s σ H Q I q => h.run pins s σ H Q I (i σ H Q q)⟩
theorem PWi {e : Expr} {t t' : TT} (h : PW X e t) (i : ∀ σ H Q, t' σ H Q → t σ H Q) : PW X e t' := ⟨fun wh pins s σ H Q I q => h.run wh pins s σ H Q I (i σ H Q q)⟩
theorem PAi {e : List Expr} {t t' : TA} (h : PA X e t) (i : ∀ σ H Q, t' σ H Q → t σ H Q) : PA X e t' := ⟨fun pos pins s σ H Q I q => h.run pos pins s σ H Q I (i σ H Q q)⟩
theorem PSi {e : Stmt} {t t' : TS} (h : PS X e t) (i : ∀ D σ H, t' D σ H → t D σ H) : PS X e t' := ⟨fun pins s σ H D I q => h.run pins s σ H D I (i D σ H q)⟩
theorem PSsi {e : List Stmt} {t t' : TS} (h : PSs X e t) (i : ∀ D σ H, t' D σ H → t D σ H) : PSs X e t' := ⟨fun pins s σ H D I q => h.run pins s σ H D I (i D σ H q)⟩

/-! ### names, constants -/
def evV (i : Nat) : Sx := fun ρ S => match ρ[i]? with
  | some (some v) => .ok v S
  | _ => .no
def evK (x : PyData) : Sx := fun _ S => .ok (.d x) S
theorem Post.val {K : Frg} {A : Wd} {H : Hp} {S : Sto} {Q : VK} {v : Val} {x : V} (w : Wf K A S H) (r : Rv K A H x v) (h : Post K A H Q (.ok v S)) : Q x H := by
  cases v with
  | d y => exact h x H .refl w r
  | c n => obtain ⟨a, e, rfl⟩ := r; exact h a H .refl w e
  | f k => exact r.elim
  | z ds => exact h x H .refl w r
  | g cs i => exact r.elim
  | x => obtain ⟨a, rfl⟩ := r; exact h a H .refl w
theorem eV (i : Nat) {x : Str} {pos : Pos} (hN : X.N[i]? = some x := by rfl) (hv : Vis X.env.scope x := by first | exact Or.inl rfl | exact Or.inr (Or.inl rfl) | exact Or.inr (Or.inr rfl)) (hd : (x == ("__debug__" : Str)) = false := by decide)
    (hcd : (x == ("__classdict__" : Str)) = false := by decide) : PE X (.Name x pos) (tE X.K (evV i)) := PEi (pe_var hN hv hd hcd) fun σ H Q ⟨A, S, ρ, w, env, p⟩ => by
  dsimp only [evV] at p
  split at p
  · rename_i v h
    obtain ⟨y, h1, h2⟩ := env.get i v h
    exact ⟨y, h1, Post.val w h2 p⟩
  · exact p.elim
theorem eC {e : Expr} {v : V} {x : PyData} (h : PE X e (tC v)) (r : ∀ A H, Rp X.K A H v x) : PE X e (tE X.K (evK x)) := PEi h fun σ H Q ⟨A, S, ρ, w, env, p⟩ => p v H .refl w (r A.V H)
theorem eInt {i : Int} {j pos} : PE X (.Constant (.int i) j pos) (tE X.K (evK (.int i))) := eC pe_int fun _ _ => .int i
theorem eBl {i : Bool} {j pos} : PE X (.Constant (.bool i) j pos) (tE X.K (evK (.bool i))) := eC pe_bl fun _ _ => .bl i
theorem eStr {i : Str} {j pos} : PE X (.Constant (.str i) j pos) (tE X.K (evK (.str i))) := eC pe_str fun _ _ => .str i
theorem eNon {j pos} : PE X (.Constant .none j pos) (tE X.K (evK .none)) := eC pe_non fun _ _ => .non

/-! ### operators by values -/
def ORul (X : Cx) (f : Value → Value → Sem Value) (g : Val → Val → Sto → Res Val) : Prop :=
  ∀ (pins : List (Addr × Obj)) (s : Shared) (σ : L2.St) (A : Wd) (S : Sto) (H : Hp) (x y : V) (a b : Value) (v w : Val) (Q : VK), Inv X pins σ H s → Wf X.K A S H → Rv X.K A H x v → Rv X.K A H y w → RelV x a → RelV y b →
    Post X.K A H Q (g v w S) → wpAny (model X.prog X.w) X.A (f a b) (EP X pins σ Q) X.xe s
def rO (K : Frg) (g : Val → Val → Sto → Res Val) : R2 := fun x y H Q => ∃ A S v w, Wf K A S H ∧ Rv K A H x v ∧ Rv K A H y w ∧ Post K A H Q (g v w S)
theorem ORul.op {f : Value → Value → Sem Value} {g : Val → Val → Sto → Res Val} (h : ORul X f g) : OpR X f (rO X.K g) := fun pins s σ H x y a b Q I ra rb ⟨A, S, v, w, wf, r1, r2, p⟩ => h pins s σ A S H x y a b v w Q I wf r1 r2 ra rb p
def ev2 (g : Val → Val → Sto → Res Val) (fa fb : Sx) : Sx := fun ρ S => (fa ρ S).bind fun v S1 => (fb ρ S1).bind fun w S2 => g v.th w.th S2
theorem ev2_ok {K : Frg} {g : Val → Val → Sto → Res Val} {fa fb : Sx} {σ : L2.St} {H : Hp} {Q : VK} (h : tE K (ev2 g fa fb) σ H Q) : tOp (rO K g) (tE K fa) (tE K fb) σ H Q := by
  obtain ⟨A, S, ρ, w, env, p⟩ := h
  refine ⟨A, S, ρ, w, env, Post.seq (P := Post K A H Q) p (fun h => h) (fun _ _ h => h) fun v S1 x H1 e1 w1 r1 p1 => ?_⟩
  refine ⟨A, S1, ρ, w1, env.mono e1, Post.seq (P := Post K A H Q) p1 (fun h => h) (fun _ _ h => h) fun u S2 y H2 e2 w2 r2 p2 => ?_⟩
  exact ⟨A, S2, v.th, u.th, w2, r1.mono e2, r2, p2.shift (e1.trans e2) w2⟩
variable {a b : Expr} {fa fb : Sx} {pos : Pos}
theorem eOp {op : Operator} {g : Val → Val → Sto → Res Val} (h : ORul X (binaryOp op) g) (ha : PE X a (tE X.K fa)) (hb : PE X b (tE X.K fb)) : PE X (.BinOp a op b pos) (tE X.K (ev2 g fa fb)) := PEi (pe_op h.op ha hb) fun _ _ _ => ev2_ok
theorem eCmp {op : CmpOp} {g : Val → Val → Sto → Res Val} (h : ORul X (compareOp op) g) (ha : PE X a (tE X.K fa)) (hb : PE X b (tE X.K fb)) (hm : behindInMarks op b = false := by first | exact nomark _ | rfl) : PE X (.Compare a [op] [b] pos) (tE X.K (ev2 g fa fb)) :=
  PEi (pe_cmpR h.op ha hb hm) fun _ _ _ => ev2_ok
/-! ### tests -/
def tst (f : Sx) : SB := fun ρ S => (f ρ S).bind fun v S1 => match v with
  | .d (.bool b) => .ok b S1
  | _ => .no
theorem tst_ok {K : Frg} {f : Sx} {σ : L2.St} {H : Hp} {Q : Bool → Hp → Prop} (h : tB K (tst f) σ H Q) : tTest (tE K f) σ H Q := by
  obtain ⟨A, S, ρ, w, env, p⟩ := h
  refine ⟨A, S, ρ, w, env, Post.seq (P := PostB K A H Q) p (fun h => h) (fun _ _ h => h) fun v S1 x H1 e1 w1 r1 p1 => ?_⟩
  split at p1
  · cases r1
    exact ⟨_, rfl, p1 H1 e1 w1⟩
  · exact p1.elim
theorem bCmp {op : CmpOp} {g : Val → Val → Sto → Res Val} (h : ORul X (compareOp op) g) (ha : PE X a (tE X.K fa)) (hb : PE X b (tE X.K fb)) (hm : behindInMarks op b = false := by first | exact nomark _ | rfl) : PT X (.Compare a [op] [b] pos) (tB X.K (tst (ev2 g fa fb))) :=
  PTi (pt_cmpR h.op ha hb hm) fun σ H Q q => by
    have z := tst_ok q
    exact ev2_ok z
theorem bVal (ha : PE X a (tE X.K fa)) (he : ∀ whole, isTrue a X.env whole = (do let v ← whole; standAt a.pos; holding [v] (truthy v)) := by intro _; rfl) : PT X a (tB X.K (tst fa)) := PTi (pt_val ha he) fun σ H Q q => tst_ok q
def bAnd (f g : SB) : SB := fun ρ S => (f ρ S).bind fun c S1 => if c = true then g ρ S1 else .ok false S1
def bOr (f g : SB) : SB := fun ρ S => (f ρ S).bind fun c S1 => if c = true then .ok true S1 else g ρ S1
def bNot (f : SB) : SB := fun ρ S => (f ρ S).bind fun c S1 => .ok (!c) S1
variable {ga gb : SB} {rest : List Expr}
theorem wAnd1 (ha : PT X a (tB X.K ga)) : PW X (.BoolOp .And [a] pos) (tB X.K ga) := pw_and1 ha
theorem wOr1 (ha : PT X a (tB X.K ga)) : PW X (.BoolOp .Or [a] pos) (tB X.K ga) := pw_or1 ha
theorem wAnd (ha : PT X a (tB X.K ga)) (hb : PW X (.BoolOp .And (b :: rest) pos) (tB X.K gb)) : PW X (.BoolOp .And (a :: b :: rest) pos) (tB X.K (bAnd ga gb)) := PWi (pw_and ha hb) fun σ H Q ⟨A, S, ρ, w, env, p⟩ =>
  ⟨A, S, ρ, w, env, PostB.seq (P := PostB X.K A H Q) p (fun h => h) (fun _ _ h => h) fun c S1 H1 e1 w1 p1 => by
    cases c with
    | true => rw [if_pos rfl] at p1 ⊢; exact ⟨A, S1, ρ, w1, env.mono e1, p1.shift e1⟩
    | false => rw [if_neg Bool.false_ne_true] at p1 ⊢; exact p1 H1 e1 w1⟩
theorem wOr (ha : PT X a (tB X.K ga)) (hb : PW X (.BoolOp .Or (b :: rest) pos) (tB X.K gb)) : PW X (.BoolOp .Or (a :: b :: rest) pos) (tB X.K (bOr ga gb)) := PWi (pw_or ha hb) fun σ H Q ⟨A, S, ρ, w, env, p⟩ =>
  ⟨A, S, ρ, w, env, PostB.seq (P := PostB X.K A H Q) p (fun h => h) (fun _ _ h => h) fun c S1 H1 e1 w1 p1 => by
    cases c with
    | true => rw [if_pos rfl] at p1 ⊢; exact p1 H1 e1 w1
    | false => rw [if_neg Bool.false_ne_true] at p1 ⊢; exact ⟨A, S1, ρ, w1, env.mono e1, p1.shift e1⟩⟩
theorem bPw (h : PW X a (tB X.K ga)) : PT X a (tB X.K ga) := h.pt
theorem bNo (ha : PT X a (tB X.K ga)) : PT X (.UnaryOp .Not a pos) (tB X.K (bNot ga)) := PTi (pt_not ha) fun σ H Q ⟨A, S, ρ, w, env, p⟩ =>
  ⟨A, S, ρ, w, env, PostB.seq (P := PostB X.K A H Q) p (fun h => h) (fun _ _ h => h) fun c S1 H1 e1 w1 p1 => p1 H1 e1 w1⟩
/-! .. as values -/
def evAnd (f g : Sx) : Sx := fun ρ S => (tst f ρ S).bind fun c S1 => if c = true then g ρ S1 else .ok (.d (.bool false)) S1
def evOr (f g : Sx) : Sx := fun ρ S => (tst f ρ S).bind fun c S1 => if c = true then .ok (.d (.bool true)) S1 else g ρ S1
def evNot (f : Sx) : Sx := fun ρ S => (tst f ρ S).bind fun c S1 => .ok (.d (.bool (!c))) S1
theorem tst_seq {K : Frg} {f : Sx} {σ : L2.St} {H : Hp} {Q : VK} {A : Wd} {S : Sto} {ρ : Envi} {g : Bool → Sto → Res Val} {R : V → Hp → Prop} (w : Wf K A S H) (env : REnv K A H ρ σ) (p : Post K A H Q ((tst f ρ S).bind g))
    (k : ∀ c S1 H1, Ext A H A H1 → Wf K A S1 H1 → REnv K A H1 ρ σ → Post K A H1 Q (g c S1) → R (.bl c) H1) : tE K f σ H R := by
  refine ⟨A, S, ρ, w, env, ?_⟩
  unfold tst at p
  cases hf : f ρ S with
  | ok v S1 =>
    rw [hf] at p
    show Post K A H R (f ρ S)
    rw [hf]
    refine Post.th fun x H1 e1 w1 r1 => ?_
    dsimp only [Res.bind] at p
    split at p
    · rename_i q
      split at q
      · injection q with q1 q2
        subst q1 q2
        cases r1
        exact k _ _ H1 e1 w1 (env.mono e1) (p.shift e1 w1)
      · cases q
    · exact p.elim
    · exact p.elim
  | exc e S => rw [hf] at p; exact p.elim
  | no => rw [hf] at p; exact p.elim
theorem eAnd (ha : PE X a (tE X.K fa)) (hb : PE X (.BoolOp .And (b :: rest) pos) (tE X.K fb)) : PE X (.BoolOp .And (a :: b :: rest) pos) (tE X.K (evAnd fa fb)) := PEi (pe_and ha hb) fun σ H Q ⟨A, S, ρ, w, env, p⟩ =>
  tst_seq w env p fun c S1 H1 e1 w1 env1 p1 => ⟨c, rfl, by
    cases c with
    | true => rw [if_pos rfl] at p1 ⊢; exact ⟨A, S1, ρ, w1, env1, p1⟩
    | false => rw [if_neg Bool.false_ne_true] at p1 ⊢; exact p1 _ H1 .refl w1 (.bl _)⟩
theorem eOr (ha : PE X a (tE X.K fa)) (hb : PE X (.BoolOp .Or (b :: rest) pos) (tE X.K fb)) : PE X (.BoolOp .Or (a :: b :: rest) pos) (tE X.K (evOr fa fb)) := PEi (pe_or ha hb) fun σ H Q ⟨A, S, ρ, w, env, p⟩ =>
  tst_seq w env p fun c S1 H1 e1 w1 env1 p1 => ⟨c, rfl, by
    cases c with
    | true => rw [if_pos rfl] at p1 ⊢; exact p1 _ H1 .refl w1 (.bl _)
    | false => rw [if_neg Bool.false_ne_true] at p1 ⊢; exact ⟨A, S1, ρ, w1, env1, p1⟩⟩
theorem eOne {op} (h : PE X a (tE X.K fa)) : PE X (.BoolOp op [a] pos) (tE X.K fa) := pe_one h
theorem eNot (ha : PE X a (tE X.K fa)) : PE X (.UnaryOp .Not a pos) (tE X.K (evNot fa)) := PEi (pe_not ha) fun σ H Q ⟨A, S, ρ, w, env, p⟩ =>
  tst_seq w env p fun c S1 H1 e1 w1 env1 p1 => ⟨c, rfl, p1 _ H1 .refl w1 (.bl _)⟩
def evIf (c : SB) (f g : Sx) : Sx := fun ρ S => (c ρ S).bind fun k S1 => if k = true then f ρ S1 else g ρ S1
theorem eIf {c : Expr} {gc : SB} (hc : PT X c (tB X.K gc)) (ha : PE X a (tE X.K fa)) (hb : PE X b (tE X.K fb)) : PE X (.IfExp c a b pos) (tE X.K (evIf gc fa fb)) := PEi (pe_ifExp hc ha hb) fun σ H Q ⟨A, S, ρ, w, env, p⟩ =>
  ⟨A, S, ρ, w, env, PostB.seq (P := Post X.K A H Q) p (fun h => h) (fun _ _ h => h) fun c S1 H1 e1 w1 p1 => by
    cases c with
    | true => rw [if_pos rfl] at p1 ⊢; exact ⟨A, S1, ρ, w1, env.mono e1, p1.shift e1 w1⟩
    | false => rw [if_neg Bool.false_ne_true] at p1 ⊢; exact ⟨A, S1, ρ, w1, env.mono e1, p1.shift e1 w1⟩⟩
def evChain (g g' : Val → Val → Sto → Res Val) (fa fb fc : Sx) : Sx := fun ρ S => (fa ρ S).bind fun v S1 => (fb ρ S1).bind fun w S2 => (g v.th w.th S2).bind fun z S3 => match z with
  | .d (.bool true) => (fc ρ S3).bind fun u S4 => g' w.th u.th S4
  | .d (.bool false) => .ok z S3
  | _ => .no
theorem eChain {op op' : CmpOp} {g g' : Val → Val → Sto → Res Val} {c : Expr} {fc : Sx} (h : ORul X (compareOp op) g) (h' : ORul X (compareOp op') g') (ha : PE X a (tE X.K fa)) (hb : PE X b (tE X.K fb)) (hc : PE X c (tE X.K fc))
    (hm : lastMarks [op, op'] [b, c] = false := by rfl) : PE X (.Compare a [op, op'] [b, c] pos) (tE X.K (evChain g g' fa fb fc)) :=
  PEi (pe_chain h.op h'.op ha hb hc hm) fun σ H Q ⟨A, S, ρ, w, env, p⟩ =>
  ⟨A, S, ρ, w, env, Post.seq (P := Post X.K A H Q) p (fun h => h) (fun _ _ h => h) fun v S1 x H1 e1 w1 r1 p1 =>
    ⟨A, S1, ρ, w1, env.mono e1, Post.seq (P := Post X.K A H Q) p1 (fun h => h) (fun _ _ h => h) fun u S2 y H2 e2 w2 r2 p2 =>
      ⟨A, S2, v.th, u.th, w2, r1.mono e2, r2, Post.seq (P := Post X.K A H Q) p2 (fun h => h) (fun _ _ h => h) fun z S3 t H3 e3 w3 r3 p3 => by
        split at p3
        · cases r3
          refine ⟨true, rfl, ?_⟩
          rw [if_pos rfl]
          have e4 := (e1.trans e2).trans e3
          exact ⟨A, S3, ρ, w3, env.mono e4, Post.seq (P := Post X.K A H Q) p3 (fun h => h) (fun _ _ h => h) fun u' S4 y' H4 e5 w4 r4 p4 => ⟨A, S4, u.th, u'.th, w4, (r2.mono e3).mono e5, r4, p4.shift (e4.trans e5) w4⟩⟩
        · cases r3
          refine ⟨false, rfl, ?_⟩
          rw [if_neg Bool.false_ne_true]
          exact p3 _ H3 ((e1.trans e2).trans e3) w3 (.bl _)
        · exact p3.elim⟩⟩⟩
end
end MV
set_option Elab.async false
set_option linter.all false
set_option maxRecDepth 100000
/-! Readings by mirrors: arguments, displays, calls, targets, statements, loops, comprehensions. -/
namespace MV
open PySem PySem.Spec PyProof.Rows L2
/-! ### what stays when a list that is being made grows -/
def Kx (W : Wd) (H : Hp) (W' : Wd) (H' : Hp) : Prop := (∃ B, W'.A = W.A ++ B) ∧ Kp W.V H W'.V H'
theorem Ext.kx {A A' : Wd} {H H' : Hp} (e : Ext A H A' H') : Kx A H A' H' := ⟨e.pre, e.kp⟩
section
variable {X : Cx} {K : Frg} {a b : Expr} {fa fb : Sx} {pos : Pos} {A A' A2 : Wd} {H H' H2 : Hp} {S S' : Sto} {Q : VK} {ρ : Envi} {σ : L2.St} {D : Ends}
/-- chain an expression's end -/
theorem at_seq {β : Type} {P : Res β → Prop} {f : Sx} {g : Val → Sto → Res β} {Q : VK} (w : Wf K A S H) (env : REnv K A H ρ σ) (p : P ((f ρ S).bind g)) (h0 : P .no → False) (h1 : ∀ e S, P (.exc e S) → False)
    (k : ∀ v S1 x H1, Ext A H A H1 → Wf K A S1 H1 → Rv K A H1 x v.th → P (g v S1) → Q x H1) : tE K f σ H Q := ⟨A, S, ρ, w, env, Post.seq (P := P) p h0 h1 k⟩

/-! ### arguments, displays -/
def aNil : SA := fun _ S => .ok [] S
def aCons (f : Sx) (g : SA) : SA := fun ρ S => (f ρ S).bind fun v S1 => (g ρ S1).bind fun vs S2 => .ok (v.th :: vs) S2
theorem aN : PA X [] (tAr X.K aNil) := PAi pa_nil fun σ H Q ⟨A, S, ρ, w, env, p⟩ => p [] H .refl w .nil
theorem aC {e : Expr} {es : List Expr} {f : Sx} {g : SA} (he : PE X e (tE X.K f)) (hr : PA X es (tAr X.K g)) (hs : starEach (e :: es) X.env = (false, eval e X.env) :: starEach es X.env := by rfl) : PA X (e :: es) (tAr X.K (aCons f g)) :=
  PAi (pa_cons he hr hs) fun σ H Q ⟨A, S, ρ, w, env, p⟩ => at_seq (P := PostA X.K A H Q) w env p (fun h => h) (fun _ _ h => h) fun v S1 x H1 e1 w1 r1 p1 =>
    ⟨A, S1, ρ, w1, env.mono e1, PostA.seq (P := PostA X.K A H Q) p1 (fun h => h) (fun _ _ h => h) fun vs S2 xs H2 e2 w2 r2 p2 => p2 _ H2 (e1.trans e2) w2 (.cons (r1.mono e2) r2)⟩
def datas : List Val → Option (List PyData)
  | [] => some []
  | .d x :: r => (datas r).map (x :: ·)
  | _ :: _ => none
theorem datas_ok : ∀ {vs : List Val} {xs : List V} {ds : List PyData}, datas vs = some ds → RvL K A H xs vs → RpL K A.V H xs ds
  | [], _, _, h, .nil => by cases h; exact .nil
  | .d x :: r, _, ds, h, .cons r1 r2 => by
    unfold datas at h
    cases q : datas r with
    | none => rw [q] at h; cases h
    | some es => rw [q] at h; cases h; exact .cons r1 (datas_ok q r2)
def evTup (f : SA) : Sx := fun ρ S => (f ρ S).bind fun vs S1 => match datas vs with
  | some ds => if ds.length ≤ 1000 then .ok (.d (.tuple ds)) S1 else .no
  | none => .no
def evLst (f : SA) : Sx := fun ρ S => (f ρ S).bind fun vs S1 => match datas vs with
  | some ds => if ds.length ≤ 1000 then .ok (.f (.lst ds)) S1 else .no
  | none => .no
theorem line1000 {n : Nat} (h : n ≤ 1000) : n ≤ sizeLine := Nat.le_of_lt (small1000 h)
/-- a new tuple, a new list at hand -/
theorem Post.tup {ds : List PyData} {xs : List V} {p : Addr} (h : Post K A H Q (.ok (.d (.tuple ds)) S)) (e : Ext A H A H2) (w : Wf K A S H2) (hp : H2 p = none) (r : RpL K A.V H2 xs ds) : Q (.ref p) (upd H2 p (.tup xs)) :=
  h _ _ (e.trans (.laid hp)) (w.laid hp) (.tup (.inl ⟨.inl upd_same, w.off hp⟩) (r.mono (Ext.laid hp).kp))
theorem push_cell {ds : List PyData} {xs : List V} {p : Addr} (w : Wf K A S H2) (hp : H2 p = none) (r : RpL K A.V H2 xs ds) : Wf K (A.push p) (S ++ [.lst ds]) (upd H2 p (.lst xs)) :=
  w.new hp ⟨xs, upd_same, r.mono (Ext.push hp w).kp⟩
theorem Post.lst {ds : List PyData} {xs : List V} {p : Addr} (h : Post K A H Q (.ok (.f (.lst ds)) S)) (e : Ext A H A H2) (w : Wf K A S H2) (hp : H2 p = none) (r : RpL K A.V H2 xs ds) : Q (.ref p) (upd H2 p (.lst xs)) :=
  h _ _ (e.trans (.laid hp)) (push_cell w hp r) (e.free w hp)
theorem eTup {es : List Expr} {f : SA} {k} (h : PA X es (tAr X.K f)) : PE X (.Tuple es k pos) (tE X.K (evTup f)) := PEi (pe_tup h) fun σ H Q ⟨A, S, ρ, w, env, p⟩ =>
  ⟨A, S, ρ, w, env, PostA.seq (P := Post X.K A H Q) p (fun h => h) (fun _ _ h => h) fun vs S1 xs H1 e1 w1 r1 p1 => by
    split at p1
    · rename_i ds hd
      split at p1
      · rename_i hl
        have r := datas_ok hd r1
        exact ⟨by rw [r.length]; exact line1000 hl, fun q hq => p1.tup e1 w1 hq r⟩
      · exact p1.elim
    · exact p1.elim⟩
theorem eLst {es : List Expr} {f : SA} (h : PA X es (tAr X.K f)) : PE X (.List es pos) (tE X.K (evLst f)) := PEi (pe_lst h) fun σ H Q ⟨A, S, ρ, w, env, p⟩ =>
  ⟨A, S, ρ, w, env, PostA.seq (P := Post X.K A H Q) p (fun h => h) (fun _ _ h => h) fun vs S1 xs H1 e1 w1 r1 p1 => by
    split at p1
    · rename_i ds hd
      split at p1
      · rename_i hl
        have r := datas_ok hd r1
        exact ⟨by rw [r.length]; exact line1000 hl, fun q hq => p1.lst e1 w1 hq r⟩
      · exact p1.elim
    · exact p1.elim⟩

/-! ### calls -/
def BRul (X : Cx) (f : Value) (g : List Val → Sto → Res Val) : Prop :=
  ∀ (pins : List (Addr × Obj)) (s : Shared) (σ : L2.St) (A : Wd) (S : Sto) (H : Hp) (xs : List V) (us : List Value) (vs : List Val) (Q : VK), Inv X pins σ H s → Wf X.K A S H → RvL X.K A H xs vs → Vals xs us →
    Post X.K A H Q (g vs S) → wpAny (model X.prog X.w) X.A (call f us) (EP X pins σ Q) X.xe s
def rB (K : Frg) (g : List Val → Sto → Res Val) : List V → Hp → VK → Prop := fun xs H Q => ∃ A S vs, Wf K A S H ∧ RvL K A H xs vs ∧ Post K A H Q (g vs S)
theorem BRul.call {f : Value} {g : List Val → Sto → Res Val} (h : BRul X f g) : CallR X f (rB X.K g) := fun pins s σ H xs us Q I r ⟨A, S, vs, w, r2, p⟩ => h pins s σ A S H xs us vs Q I w r2 r p
def evCall (g : List Val → Sto → Res Val) (f : SA) : Sx := fun ρ S => (f ρ S).bind g
theorem call_ok {g : List Val → Sto → Res Val} {f : SA} (h : tE K (evCall g f) σ H Q) : tCB (rB K g) (tAr K f) σ H Q := by
  obtain ⟨A, S, ρ, w, env, p⟩ := h
  exact ⟨A, S, ρ, w, env, PostA.seq (P := Post K A H Q) p (fun h => h) (fun _ _ h => h) fun vs S1 xs H1 e1 w1 r1 p1 => ⟨A, S1, vs, w1, r1, p1.shift e1 w1⟩⟩
section
variable {x : Str} {p : Pos} {e : Expr} {es : List Expr} {f : SA} {id T : String} {g : List Val → Sto → Res Val}
theorem eB (hc : BRul X (.builtin id) g) (hg : Gl X x) (hm : X.mg x = none) (hv : bootBuiltins x = some (.builtin id)) (ha : PA X (e :: es) (tAr X.K f)) (hn : x ≠ "__name__" := by decide) (hdb : (x == ("__debug__" : Str)) = false := by decide)
    (he : starEach (e :: es) X.env = (false, eval e X.env) :: starEach es X.env := by rfl) (hpl : (backTo pos (starEach es X.env)).any (·.1) = false := by rfl) : PE X (.Call (.Name x p) (e :: es) [] pos) (tE X.K (evCall g f)) :=
  PEi (pe_callB hc.call hg hm hv ha hn hdb he hpl) fun _ _ _ => call_ok
theorem eT (hc : BRul X (.type T) g) (hg : Gl X x) (hm : X.mg x = none) (hv : bootBuiltins x = some (.type T)) (ha : PA X (e :: es) (tAr X.K f)) (hn : x ≠ "__name__" := by decide) (hdb : (x == ("__debug__" : Str)) = false := by decide)
    (he : starEach (e :: es) X.env = (false, eval e X.env) :: starEach es X.env := by rfl) (hpl : (backTo pos (starEach es X.env)).any (·.1) = false := by rfl) : PE X (.Call (.Name x p) (e :: es) [] pos) (tE X.K (evCall g f)) :=
  PEi (pe_callTy hc.call hg hm hv ha hn hdb he hpl) fun _ _ _ => call_ok
end
/-! ### defs, called where no container's text is being made -/
structure FnG (P : Program) (w : World) (K : Frg) (mg : Str → Option Value) (base : Heap) (k : Nat) (f : Addr) (fd : FuncData) (ps : List Str) (sp : Sp) : Prop where
  arity : ∀ xs H Q E, sp xs H Q E → xs.length = ps.length
  runs : ∀ (A : Around) (out : List PySem.Env) (s : Shared) (H : Hp) (ar : Args) (us : List Value) (xs : List V) (Q : VK) (E : XK),
    Room k A → A.guards = some [] → Env0 P w K mg base A out s H → BindsTo s fd ar (ps.zip us) → Vals xs us → sp xs H Q E → codeAny (model P w) A (.call (.ref f) ar) (CR CX0 out P w H s Q E) s
theorem FnG.up {P : Program} {w : World} {K : Frg} {mg : Str → Option Value} {base : Heap} {j k : Nat} {f : Addr} {fd : FuncData} {ps : List Str} {sp : Sp} (F : FnG P w K mg base j f fd ps sp) (le : j ≤ k) : FnG P w K mg base k f fd ps sp :=
  ⟨F.arity, fun A out s H ar us xs Q E room => F.runs A out s H ar us xs Q E (room.mono le)⟩
theorem fnG_of {P : Program} {w : World} {K : Frg} {mg : Str → Option Value} {base : Heap} {x qual : Str} {st : Stmt} {f : Addr} {fd : FuncData} {N ps : List Str} {k : Nat} {sp : Sp} (F : Fun K x qual st f fd) (Sc : FnScope N ps (defScope st))
    (ar0 : ∀ xs H Q E, sp xs H Q E → xs.length = ps.length)
    (body : ∀ (cdv : Value) (A : Around) (out : List PySem.Env) (s : Shared) (H : Hp) (xs : List V) (Q : VK) (E : XK), Room k (A.deeper (envOfC qual (defScope st) s.heap.objs.size f cdv)) → A.guards = some [] → sp xs H Q E →
      ∃ t, PSs (cxOf CX0 P w K mg base N qual (defScope st) f cdv A out s H E).nox (defBody st) t ∧ t { nx := fun _ H' => Q .non H', rt := Q } (L2.start N xs) H) : FnG P w K mg base (k + 1) f fd ps sp := by
  obtain ⟨oc, od, kV, dc, pm, an, cdv, ct, osl, e_fd, found, code⟩ := F.ex
  subst e_fd
  constructor
  · exact ar0
  · intro A out s H ar us xs Q E room gd env0 bnd rel promise
    have arity := ar0 _ _ _ _ promise
    have inK : K.In s.heap := env0.mod.kin.keeps fun c v q => (env0.bs c v q).1
    have noLim : s.heap.NoLimit := env0.mod.nolimit.keeps fun c v q => (env0.bs c v q).1
    have kinds : ∀ z ∈ ps.zip us, (defScope st).names.lookup z.1 = some .local ∨ ((defScope st).names.lookup z.1 = some .cell ∧ ((cellsFrom (s.heap.objs.size + 1) (defScope st).names []).lookup z.1).isSome = true) := by
      rintro ⟨n, v⟩ hz
      rcases Sc.par n (List.of_mem_zip hz).1 with lo | ce
      · exact Or.inl lo
      · exact Or.inr ⟨ce, PySem.W.cellsFrom_some _ _ _ (Or.inl ce)⟩
    refine codeAny_call_function room.depth (inK _ _ found) rfl Sc.co Sc.gen rfl (PySem.W.codeRec_of inK code) (bnd _ _ _ _ (wpAny_newFunctionEnv_cells Sc.kind kinds fun env' e_env s' frame => ?_))
    subst e_env
    refine ⟨noLim.keeps frame.toInCall.keep, codeAny_func ?_⟩
    obtain ⟨t, walk, holds⟩ := body cdv A out s H xs Q E (room.deeper _) gd promise
    have inv0 : Inv (cxOf CX0 P w K mg base N qual (defScope st) f cdv A out s H E) [] (L2.start N xs) H s' := inv_start Sc room.hd env0 arity rel frame
    refine wpAny_mono (walk.nox.run [] s' (L2.start N xs) H _ inv0 holds) ?_ fun e s2 q => q
    intro fl s2 ends
    cases fl with
    | ret u =>
      obtain ⟨v, σ2, H2, inv2, rel2, q⟩ := ends
      exact ⟨v, H2, inv2.os, inv2.bare, inv2.base, inv2.hok, rel2, q⟩
    | next =>
      obtain ⟨σ2, H2, inv2, q⟩ := ends
      exact ⟨V.non, H2, inv2.os, inv2.bare, inv2.base, inv2.hok, rfl, q⟩
    | brk =>
      obtain ⟨_, _, _, q⟩ := ends
      exact q.elim
    | cont =>
      obtain ⟨_, _, _, q⟩ := ends
      exact q.elim
section
variable {x : Str} {p : Pos} {e : Expr} {es : List Expr} {k : Nat} {fa : Addr} {fd : FuncData} {ps : List Str} {sp : Sp} {t : TA}
theorem runG {pins : List (Addr × Obj)} {s : Shared} {us : List Value} {xs : List V} (F : FnG X.prog X.w X.K X.mg X.base k fa fd ps sp) (room : Room k X.A) (gd : X.A.guards = some []) (hb : Binds X.K fd ps []) (I : Inv X pins σ H s) (r : Vals xs us) (h : sp xs H Q E0) :
    wpAny (model X.prog X.w) X.A (call (.ref fa) us) (EP X pins σ Q) X.xe s := by
  have n : us.length = ps.length := r.length.symm.trans (F.arity _ _ _ _ h)
  have b := hb s us I.kIn (by rw [List.append_nil]; exact n)
  rw [List.append_nil] at b
  refine wpAny_call (codeAny_mono (F.runs X.A X.stack s H ⟨us, []⟩ us xs Q E0 room gd I.env0 b r h) ?_)
  intro res s2 q
  match res, q with
  | .ok (.ret u), q => exact I.after q
  | .ok .next, q => exact q.elim
  | .ok .brk, q => exact q.elim
  | .ok .cont, q => exact q.elim
  | .error e, q => exact q.elim
def tCl (sp : Sp) (t : TA) : TE := fun σ H Q => t σ H fun xs H1 => sp xs H1 Q E0
theorem peG (F : FnG X.prog X.w X.K X.mg X.base k fa fd ps sp) (room : Room k X.A) (gd : X.A.guards = some []) (hg : Gl X x) (hm : X.mg x = some (.ref fa)) (hk : PySem.W.keepIn X.K (.ref fa) = true) (hb : Binds X.K fd ps [])
    (ha : PA X (e :: es) t) (hdb : (x == ("__debug__" : Str)) = false := by decide) (he : starEach (e :: es) X.env = (false, eval e X.env) :: starEach es X.env := by rfl) (hpl : (backTo pos (starEach es X.env)).any (·.1) = false := by rfl) :
    PE X (.Call (.Name x p) (e :: es) [] pos) (tCl sp t) := by
  constructor
  intro pins s σ H Q I h
  refine wpAny_Call_Name_kw (ld_glob I hg hm (PySem.W.callWith_K (h₀ := X.base) I.ok.mod.kin hk (thn (ha.run pos pins s σ H _ I h) ?_) he hpl) hdb)
  rintro us s2 ⟨xs, H2, I2, r, q⟩
  exact ⟨I2.kIn, runG F room gd hb I2 r q⟩
theorem peG0 (F : FnG X.prog X.w X.K X.mg X.base k fa fd ps sp) (room : Room k X.A) (gd : X.A.guards = some []) (hg : Gl X x) (hm : X.mg x = some (.ref fa)) (hk : PySem.W.keepIn X.K (.ref fa) = true) (hb : Binds X.K fd ps [])
    (hdb : (x == ("__debug__" : Str)) = false := by decide) : PE X (.Call (.Name x p) [] [] pos) (fun _ H Q => sp [] H Q E0) := by
  constructor
  intro pins s σ H Q I h
  exact wpAny_Call_Name_kw (ld_glob I hg hm (PySem.W.callWith_K0 I.kIn hk (runG (us := []) F room gd hb I .nil h)) hdb)
end
abbrev Fn := List Val → Sto → Res Val
/-- a def keeps its mirror -/
def spF (K : Frg) (m : Fn) : Sp := fun xs H Q _ => rB K m xs H Q
section
variable {x : Str} {p : Pos} {e : Expr} {es : List Expr} {f : SA} {k : Nat} {fa : Addr} {fd : FuncData} {ps : List Str} {m : Fn}
theorem eF (F : FnG X.prog X.w X.K X.mg X.base k fa fd ps (spF X.K m)) (hr : Room k X.A) (gd : X.A.guards = some []) (hg : Gl X x) (hm : X.mg x = some (.ref fa)) (hk : PySem.W.keepIn X.K (.ref fa) = true) (hb : Binds X.K fd ps [])
    (ha : PA X (e :: es) (tAr X.K f)) (hdb : (x == ("__debug__" : Str)) = false := by decide) (he : starEach (e :: es) X.env = (false, eval e X.env) :: starEach es X.env := by rfl) (hpl : (backTo pos (starEach es X.env)).any (·.1) = false := by rfl) :
    PE X (.Call (.Name x p) (e :: es) [] pos) (tE X.K (evCall m f)) :=
  PEi (peG F hr gd hg hm hk hb ha hdb he hpl) fun σ H Q ⟨A, S, ρ, w, env, p⟩ => ⟨A, S, ρ, w, env, PostA.seq (P := Post X.K A H Q) p (fun h => h) (fun _ _ h => h) fun vs S1 xs H1 e1 w1 r1 p1 => ⟨A, S1, vs, w1, r1, p1.shift e1 w1⟩⟩
theorem eF0 (F : FnG X.prog X.w X.K X.mg X.base k fa fd ps (spF X.K m)) (hr : Room k X.A) (gd : X.A.guards = some []) (hg : Gl X x) (hm : X.mg x = some (.ref fa)) (hk : PySem.W.keepIn X.K (.ref fa) = true) (hb : Binds X.K fd ps [])
    (hdb : (x == ("__debug__" : Str)) = false := by decide) : PE X (.Call (.Name x p) [] [] pos) (tE X.K (evCall m aNil)) :=
  PEi (peG0 F hr gd hg hm hk hb hdb) fun σ H Q ⟨A, S, ρ, w, env, p⟩ => ⟨A, S, [], w, .nil, p⟩
end

/-! ### targets -/
structure Bnd where
  sl : List Nat
  go : PyData → Envi → Option Envi
def tG (K : Frg) (b : Bnd) : TG := fun v σ H Q => ∃ A ρ x ρ', REnv K A H ρ σ ∧ Rp K A.V H v x ∧ b.go x ρ = some ρ' ∧ ∀ σ' : L2.St, σ'.length = σ.length → (∀ j, j ∉ b.sl → σ'[j]? = σ[j]?) → REnv K A H ρ' σ' → Q σ' H
def bName (i : Nat) : Bnd := ⟨[i], fun x ρ => some (ρ.set i (some (.d x)))⟩
theorem REnv.set {i : Nat} {x : V} {v : Val} (env : REnv K A H ρ σ) (r : Rv K A H x v) : REnv K A H (ρ.set i (some v)) (σ.set i (some x)) := by
  refine ⟨by rw [List.length_set, List.length_set]; exact env.len, fun j u h => ?_⟩
  by_cases e : j = i
  · subst e
    have hl : j < ρ.length := by
      have := (List.getElem?_eq_some_iff.mp h).1
      rwa [List.length_set] at this
    rw [List.getElem?_set_self hl] at h
    cases h
    exact ⟨x, by rw [List.getElem?_set_self (by rw [env.len]; exact hl)], r⟩
  · rw [List.getElem?_set_ne (Ne.symm e)] at h
    obtain ⟨y, h1, h2⟩ := env.get j u h
    exact ⟨y, by rw [List.getElem?_set_ne (Ne.symm e)]; exact h1, h2⟩
theorem gN {i : Nat} {x : Str} (hN : X.N.Nodup) (hi : X.N[i]? = some x) (hx : Loc X.env.scope x) (hf : X.fn x = true ∨ X.env.scope.names.lookup x = some .local := by first | exact .inl rfl | exact .inr rfl | assumption) : PG X (.Name x pos) (tG X.K (bName i)) :=
  ⟨fun pins s σ H v u Q I r h => (pg_name hN hi hx hf).run pins s σ H v u Q I r (by
    obtain ⟨A, ρ, y, ρ', env, rp, e, q⟩ := h
    cases e
    refine q _ (by rw [List.length_set]) (fun j hj => ?_) (env.set (v := .d y) rp)
    rw [List.getElem?_set_ne (fun e => hj (by rw [e]; exact List.mem_singleton.mpr rfl))])⟩
def goL : List Bnd → List PyData → Envi → Option Envi
  | [], [], ρ => some ρ
  | b :: bs, x :: xs, ρ => match b.go x ρ with
    | some ρ1 => goL bs xs ρ1
    | none => none
  | _, _, _ => none
def slL (bs : List Bnd) : List Nat := (bs.map (·.sl)).flatten
def bTup (bs : List Bnd) : Bnd := ⟨slL bs, fun x ρ => match x with
  | .tuple ds => goL bs ds ρ
  | _ => none⟩
def tGs (K : Frg) (bs : List Bnd) : TGs := fun vs σ H Q => ∃ A ρ xs ρ', REnv K A H ρ σ ∧ RpL K A.V H vs xs ∧ goL bs xs ρ = some ρ' ∧ ∀ σ' : L2.St, σ'.length = σ.length → (∀ j, j ∉ slL bs → σ'[j]? = σ[j]?) → REnv K A H ρ' σ' → Q σ' H
theorem gsN : PGs X [] (tGs X.K []) := ⟨fun pins s σ H vs us Q I r h => pgs_nil.run pins s σ H vs us Q I r (by
  obtain ⟨A, ρ, xs, ρ', env, rp, e, q⟩ := h
  cases rp with
  | nil => cases e; exact ⟨rfl, q σ rfl (fun _ _ => rfl) env⟩
  | cons _ _ => cases e)⟩
theorem gsC {e : Expr} {es : List Expr} {b : Bnd} {bs : List Bnd} (h1 : PG X e (tG X.K b)) (h2 : PGs X es (tGs X.K bs))
    (hs : (assignEach (e :: es) X.env).map (·.2) = assign e X.env :: (assignEach es X.env).map (·.2) := by rfl) : PGs X (e :: es) (tGs X.K (b :: bs)) :=
  ⟨fun pins s σ H vs us Q I r h => (pgs_cons h1 h2 hs).run pins s σ H vs us Q I r (by
    obtain ⟨A, ρ, xs, ρ', env, rp, e, q⟩ := h
    cases rp with
    | nil => cases e
    | cons r1 r2 =>
      rename_i v vr x xr
      refine ⟨v, vr, rfl, ?_⟩
      unfold goL at e
      split at e
      · rename_i ρ1 h1
        refine ⟨A, ρ, x, ρ1, env, r1, h1, fun σ1 hl hj env1 => ⟨A, ρ1, xr, ρ', env1, r2, e, fun σ2 hl2 hj2 env2 => q σ2 (hl2.trans hl) (fun j hj' => ?_) env2⟩⟩
        have n1 : j ∉ b.sl := fun m => hj' (by unfold slL; exact List.mem_append_left _ m)
        have n2 : j ∉ slL bs := fun m => hj' (by unfold slL; exact List.mem_append_right _ m)
        exact (hj2 j n2).trans (hj j n1)
      · cases e)⟩
theorem goL_len : ∀ {bs : List Bnd} {xs : List PyData} {ρ ρ' : Envi}, goL bs xs ρ = some ρ' → xs.length = bs.length
  | [], [], _, _, _ => rfl
  | [], _ :: _, _, _, h => by cases h
  | _ :: _, [], _, _, h => by cases h
  | b :: bs, x :: xs, ρ, ρ', h => by
    unfold goL at h
    split at h
    · rw [List.length_cons, List.length_cons, goL_len h]
    · cases h
theorem gT {es : List Expr} {k : Nat} {bs : List Bnd} {n : Nat} (hc : X.calm = true) (h : PGs X es (tGs X.K bs)) (hnb : bs.length = n := by rfl)
    (hn : (assignEach es X.env).length = n := by rfl) (hst : (assignEach es X.env).findIdx? (·.1) = none := by rfl) : PG X (.Tuple es k pos) (tG X.K (bTup bs)) :=
  ⟨fun pins s σ H v u Q I r hw => (pg_tup hc h hn hst).run pins s σ H v u Q I r (by
    obtain ⟨A, ρ, x, ρ', env, rp, e, q⟩ := hw
    cases rp with
    | tup l t =>
      rename_i a xs ds
      exact ⟨a, xs, rfl, l.seq, by rw [t.length, goL_len e, hnb], A, ρ, ds, ρ', env, t, e, q⟩
    | _ => cases e)⟩

/-! ### statements -/
def sNil : Ss := fun ρ S => .ok (.nx ρ) S
def sSeq (f g : Ss) : Ss := fun ρ S => (f ρ S).bind fun w S1 => match w with
  | .nx ρ1 => g ρ1 S1
  | .rt v => .ok (.rt v) S1
  | .bk ρ1 => .ok (.bk ρ1) S1
  | .ct ρ1 => .ok (.ct ρ1) S1
theorem ssN : PSs X [] (tS X.K sNil) := PSsi pss_nil fun D σ H ⟨A, S, ρ, w, env, p⟩ => p A σ H .refl w env
theorem seq_ok {f g : Ss} (w : Wf K A S H) (p : PostS K A H D (sSeq f g ρ S)) : PostS K A H { D with nx := tS K g D } (f ρ S) := by
  unfold sSeq at p
  cases h : f ρ S with
  | no => rw [h] at p; exact p
  | exc e S1 => rw [h] at p; exact p
  | ok v S1 =>
    rw [h] at p
    cases v with
    | nx ρ1 => exact fun A' σ' H' e w1 env => ⟨A', S1, ρ1, w1, env, PostS.shift p e w1⟩
    | rt v => exact p
    | bk ρ1 => exact p
    | ct ρ1 => exact p
theorem ssC {st : Stmt} {rest : List Stmt} {f g : Ss} (h1 : PS X st (tS X.K f)) (h2 : PSs X rest (tS X.K g)) : PSs X (st :: rest) (tS X.K (sSeq f g)) := PSsi (pss_cons h1 h2) fun D σ H ⟨A, S, ρ, w, env, p⟩ => ⟨A, S, ρ, w, env, seq_ok w p⟩
theorem ss1 {st : Stmt} {f : Ss} (h1 : PS X st (tS X.K f)) : PSs X [st] (tS X.K f) := pss_one h1
theorem sPass : PS X (.Pass pos) (tS X.K sNil) := PSi ps_pass fun D σ H ⟨A, S, ρ, w, env, p⟩ => p A σ H .refl w env
def sBk : Ss := fun ρ S => .ok (.bk ρ) S
def sCt : Ss := fun ρ S => .ok (.ct ρ) S
theorem sBreak : PS X (.Break pos) (tS X.K sBk) := PSi ps_break fun D σ H ⟨A, S, ρ, w, env, p⟩ => p A σ H .refl w env
theorem sCont : PS X (.Continue pos) (tS X.K sCt) := PSi ps_continue fun D σ H ⟨A, S, ρ, w, env, p⟩ => p A σ H .refl w env
def sEx (f : Sx) : Ss := fun ρ S => (f ρ S).bind fun _ S1 => .ok (.nx ρ) S1
theorem sExpr (h : PE X a (tE X.K fa)) (hs : swapsWith a none pos.line X.env = pure false := by rfl) : PS X (.Expr a pos) (tS X.K (sEx fa)) := PSi (ps_expr h hs) fun D σ H ⟨A, S, ρ, w, env, p⟩ =>
  at_seq (P := PostS X.K A H D) w env p (fun h => h) (fun _ _ h => h) fun v S1 x H1 e1 w1 r1 p1 => p1 A σ H1 e1 w1 (env.mono e1)
def sRt (f : Sx) : Ss := fun ρ S => (f ρ S).bind fun v S1 => .ok (.rt v) S1
theorem sRet (h : PE X a (tE X.K fa)) : PS X (.Return (some a) pos) (tS X.K (sRt fa)) := PSi (ps_ret h) fun D σ H ⟨A, S, ρ, w, env, p⟩ => ⟨A, S, ρ, w, env, by
  show Post X.K A H D.rt (fa ρ S)
  dsimp only [sRt] at p
  cases q : fa ρ S with
  | no => rw [q] at p; exact p
  | exc e S1 => rw [q] at p; exact p
  | ok v S1 =>
    rw [q] at p
    cases v with
    | d x => exact fun v H' e w r => p A v H' e w r
    | c n => exact fun a H' e w r => p A a H' e w r
    | f k => exact fun a H' e w r => p A a H' e w r
    | z ds => exact fun v H' e w r => p A v H' e w r
    | g cs i => exact fun as a H' e w q l j => p A as a H' e w q l j
    | x => exact fun v H' e w => p A v H' e w⟩
def sRtN : Ss := fun ρ S => .ok (.rt (.d .none)) S
theorem sRetN : PS X (.Return none pos) (tS X.K sRtN) := PSi ps_retN fun D σ H ⟨A, S, ρ, w, env, p⟩ => p A .non H .refl w .non
def sIf (c : SB) (f g : Ss) : Ss := fun ρ S => (c ρ S).bind fun k S1 => if k = true then f ρ S1 else g ρ S1
theorem sIfR {c : Expr} {p q : List Stmt} {gc : SB} {f g : Ss} (hc : PT X c (tB X.K gc)) (ha : PSs X p (tS X.K f)) (hb : PSs X q (tS X.K g)) : PS X (.If c p q pos) (tS X.K (sIf gc f g)) := PSi (ps_if hc ha hb) fun D σ H ⟨A, S, ρ, w, env, p⟩ =>
  ⟨A, S, ρ, w, env, PostB.seq (P := PostS X.K A H D) p (fun h => h) (fun _ _ h => h) fun k S1 H1 e1 w1 p1 => by
    cases k with
    | true => rw [if_pos rfl] at p1 ⊢; exact ⟨A, S1, ρ, w1, env.mono e1, p1.shift e1 w1⟩
    | false => rw [if_neg Bool.false_ne_true] at p1 ⊢; exact ⟨A, S1, ρ, w1, env.mono e1, p1.shift e1 w1⟩⟩
def sSet (i : Nat) (f : Sx) : Ss := fun ρ S => (f ρ S).bind fun v S1 => .ok (.nx (ρ.set i (some v.th))) S1
def sCell (i : Nat) (f : Sx) : Ss := fun ρ S => (f ρ S).bind fun v S1 => match v with
  | .f k => .ok (.nx (ρ.set i (some (.c S1.length)))) (S1 ++ [k])
  | .g cs j => .ok (.nx (ρ.set i (some (.c (S1.length + j))))) (S1 ++ cs)
  | _ => .no
theorem set_ok {i : Nat} {f : Sx} (h : tS K (sSet i f) D σ H) : tAsg (tE K f) (gName i) D σ H := by
  obtain ⟨A, S, ρ, w, env, p⟩ := h
  exact at_seq (P := PostS K A H D) w env p (fun h => h) (fun _ _ h => h) fun v S1 x H1 e1 w1 r1 p1 => p1 A _ H1 e1 w1 ((env.mono e1).set r1)
theorem cell_ok {i : Nat} {f : Sx} (h : tS K (sCell i f) D σ H) : tAsg (tE K f) (gName i) D σ H := by
  obtain ⟨A, S, ρ, w, env, p⟩ := h
  refine ⟨A, S, ρ, w, env, ?_⟩
  show Post K A H _ (f ρ S)
  dsimp only [sCell] at p
  cases q : f ρ S with
  | no => rw [q] at p; exact p
  | exc e S1 => rw [q] at p; exact p
  | ok v S1 =>
    rw [q] at p
    cases v with
    | d x => exact p.elim
    | c n => exact p.elim
    | z ds => exact p.elim
    | x => exact p.elim
    | g cs j =>
      intro as a H' e w1 hn hl hj
      have e2 : Ext A H (A.pushs as) H' := e.grows (K := K) hn
      refine p (A.pushs as) (σ.set i (some (.ref a))) H' e2 w1 ((env.mono e2).set (v := .c (S1.length + j)) ⟨a, ?_, rfl⟩)
      have l := w1.len
      have l2 : A.A.length = S1.length := by
        simp [Wd.pushs] at l
        omega
      show (A.A ++ as)[S1.length + j]? = some a
      rw [List.getElem?_append_right (by omega), l2, Nat.add_sub_cancel_left]; exact hj
    | f k =>
      intro a H' e w1 hn
      have e2 : Ext A H (A.push a) H' := e.grow hn
      refine p (A.push a) (σ.set i (some (.ref a))) H' e2 w1 ((env.mono e2).set (v := .c S1.length) ⟨a, ?_, rfl⟩)
      show (A.A ++ [a])[S1.length]? = some a
      rw [← w1.drop1.1.len]; simp
section
variable {i : Nat} {x : Str} {pos' : Pos}
theorem sSetR (i : Nat) (hN : X.N.Nodup) (hi : X.N[i]? = some x) (hx : Loc X.env.scope x) (he : PE X a (tE X.K fa)) (hs : swapsWith a (some (.Name x pos')) pos.line X.env = pure false := by rfl)
    (hf : X.fn x = true ∨ X.env.scope.names.lookup x = some .local := by first | exact .inl rfl | exact .inr rfl | assumption) : PS X (.Assign [.Name x pos'] a pos) (tS X.K (sSet i fa)) := PSi (ps_set hN hi hx he hs hf) fun D σ H => set_ok
theorem sCellR (i : Nat) (hN : X.N.Nodup) (hi : X.N[i]? = some x) (hx : Loc X.env.scope x) (he : PE X a (tE X.K fa)) (hs : swapsWith a (some (.Name x pos')) pos.line X.env = pure false := by rfl)
    (hf : X.fn x = true ∨ X.env.scope.names.lookup x = some .local := by first | exact .inl rfl | exact .inr rfl | assumption) : PS X (.Assign [.Name x pos'] a pos) (tS X.K (sCell i fa)) := PSi (ps_set hN hi hx he hs hf) fun D σ H => cell_ok
end
def sAsg (f : Sx) (b : Bnd) : Ss := fun ρ S => (f ρ S).bind fun v S1 => match v.th with
  | .d x => match b.go x ρ with
    | some ρ1 => .ok (.nx ρ1) S1
    | none => .no
  | _ => .no
theorem sAsgR {tg : Expr} {bd : Bnd} (he : PE X a (tE X.K fa)) (hg : PG X tg (tG X.K bd)) (hs : swapsWithSole [tg] a pos.line X.env = pure false := by rfl) (hw : swappedStores [tg] a X.env = pure none := by rfl)
    (h1 : (assignEach [tg] X.env).map (·.2) = [assign tg X.env] := by rfl) : PS X (.Assign [tg] a pos) (tS X.K (sAsg fa bd)) := PSi (ps_asg he hg hs hw h1) fun D σ H ⟨A, S, ρ, w, env, p⟩ =>
  at_seq (P := PostS X.K A H D) w env p (fun h => h) (fun _ _ h => h) fun v S1 x H1 e1 w1 r1 p1 => by
    split at p1
    · rename_i y hy
      rw [hy] at r1
      split at p1
      · rename_i ρ1 h1
        exact ⟨A, ρ, y, ρ1, env.mono e1, r1, h1, fun σ' _ _ env' => p1 A σ' H1 e1 w1 env'⟩
      · exact p1.elim
    · exact p1.elim
/-- a, b = x, y of plain locals -/
def sPar (i j : Nat) (f : SA) : Ss := fun ρ S => (f ρ S).bind fun vs S1 => match vs with
  | [v, w] => .ok (.nx ((ρ.set i (some v)).set j (some w))) S1
  | _ => .no
theorem sParR (i j : Nat) {x y : Str} {f : SA} {px py pt : Pos} {kt k2 pt2} (hc : X.calm = true) (hN : X.N.Nodup) (hi : X.N[i]? = some x) (hj : X.N[j]? = some y) (hij : i ≠ j)
    (hx : X.env.scope.names.lookup x = some .local) (hy : X.env.scope.names.lookup y = some .local) (ha : PA X [a, b] (tAr X.K f)) (hs : swappedStores [.Tuple [.Name x px, .Name y py] kt pt] (.Tuple [a, b] k2 pt2) X.env = pure (some [x, y]) := by rfl) : PS X (.Assign [.Tuple [.Name x px, .Name y py] kt pt] (.Tuple [a, b] k2 pt2) pos) (tS X.K (sPar i j f)) := PSi (ps_par hc hN hi hj hij hx hy ha hs) fun D σ H ⟨A, S, ρ, w, env, p⟩ =>
  ⟨A, S, ρ, w, env, PostA.seq (P := PostS X.K A H D) p (fun h => h) (fun _ _ h => h) fun vs S1 xs H1 e1 w1 r1 p1 => by
    split at p1
    · cases r1 with | cons r1 r2 => cases r2 with | cons r2 r3 => cases r3; exact ⟨_, _, rfl, p1 A _ H1 e1 w1 (((env.mono e1).set r1).set r2)⟩
    · exact p1.elim⟩
/-! ### while -/
def sWhN (c : SB) (b : Ss) : Nat → Ss
  | 0 => fun _ _ => .no
  | n + 1 => fun ρ S => (c ρ S).bind fun k S1 => if k = true then (b ρ S1).bind fun w S2 => match w with
      | .nx ρ1 => sWhN c b n ρ1 S2
      | .ct ρ1 => sWhN c b n ρ1 S2
      | .bk ρ1 => .ok (.nx ρ1) S2
      | .rt v => .ok (.rt v) S2
    else .ok (.nx ρ) S1
theorem sWhile (n : Nat) {c : Expr} {body : List Stmt} {gc : SB} {f : Ss} (hp : PassesOwn (model X.prog X.w) X.A X.env X.xe) (hc : PT X c (tB X.K gc)) (hb : PSs X body (tS X.K f)) : PS X (.While c body [] pos) (tS X.K (sWhN gc f n)) := PSi (ps_while hp hc hb) fun D σ H h => by
  refine ⟨fun m σ H => tS X.K (sWhN gc f m) D σ H, ⟨n, h⟩, ?_⟩
  rintro m σ H ⟨A, S, ρ, w, env, p⟩
  cases m with
  | zero => exact p.elim
  | succ m =>
    refine ⟨A, S, ρ, w, env, PostB.seq (P := PostS X.K A H D) p (fun h => h) (fun _ _ h => h) fun k S1 H1 e1 w1 p1 => ?_⟩
    cases k with
    | false => exact p1 A σ H1 e1 w1 (env.mono e1)
    | true =>
      have p1 : PostS X.K A H1 D ((f ρ S1).bind fun w S2 => match w with
        | .nx ρ1 => sWhN gc f m ρ1 S2
        | .ct ρ1 => sWhN gc f m ρ1 S2
        | .bk ρ1 => .ok (.nx ρ1) S2
        | .rt v => .ok (.rt v) S2) := PostS.shift p1 e1 w1
      rw [if_pos rfl]
      refine ⟨fun σ' H' => tS X.K (sWhN gc f m) D σ' H', fun σ' H' h => ⟨m, Nat.lt_succ_self m, h⟩, A, S1, ρ, w1, env.mono e1, ?_⟩
      show PostS X.K A H1 _ (f ρ S1)
      cases q : f ρ S1 with
      | no => rw [q] at p1; exact p1
      | exc e S2 => rw [q] at p1; exact p1
      | ok v S2 =>
        rw [q] at p1
        cases v with
        | nx ρ1 => exact fun A' σ' H' e w2 env2 => ⟨A', S2, ρ1, w2, env2, PostS.shift p1 e w2⟩
        | ct ρ1 => exact fun A' σ' H' e w2 env2 => ⟨A', S2, ρ1, w2, env2, PostS.shift p1 e w2⟩
        | bk ρ1 => exact p1
        | rt v => exact p1
/-! ### for -/
structure Src where
  items : List PyData
  g : List (Nat × List PyData)
abbrev SI := Envi → Sto → Res Src
def GOk (S : Sto) (s : Src) : Prop := ∀ p ∈ s.g, S[p.1]? = some (.lst p.2)
open Classical in
noncomputable def chk {α : Type} (S : Sto) (s : Src) (r : Res α) : Res α := if GOk S s then r else .no
structure SrcW (K : Frg) (J : It) (s : Src) (B : Wd → Hp → Prop) : Prop where
  mono : ∀ A H A' H', Kx A H A' H' → B A H → B A' H'
  goes : ∀ i A S H, i < s.items.length → Wf K A S H → B A H → GOk S s → J.go i H
  stops : ∀ A S H, Wf K A S H → B A H → GOk S s → J.stop s.items.length H
  yields : ∀ i A S H x H', i < s.items.length → Wf K A S H → B A H → GOk S s → J.yld i H x H' → ∃ d, s.items[i]? = some d ∧ Ext A H A H' ∧ Wf K A S H' ∧ Rp K A.V H' x d
def PostI (K : Frg) (A : Wd) (H : Hp) (R : It → Hp → Prop) : Res Src → Prop
  | .ok s S => ∀ J B H', Ext A H A H' → Wf K A S H' → SrcW K J s B → B A H' → R J H'
  | .exc _ _ => False
  | .no => False
def tI (K : Frg) (f : SI) : TI := fun σ H R => At K σ H fun A ρ S => PostI K A H R (f ρ S)
theorem PostI.seq {β : Type} {P : Res β → Prop} {R : It → Hp → Prop} {r : Res Src} {g : Src → Sto → Res β} (h : P (r.bind g)) (h0 : P .no → False) (h1 : ∀ e S, P (.exc e S) → False)
    (k : ∀ s S1 J B H1, Ext A H A H1 → Wf K A S1 H1 → SrcW K J s B → B A H1 → P (g s S1) → R J H1) : PostI K A H R r := by
  cases r with
  | ok v S1 => exact fun J B H1 e w sw b => k v S1 J B H1 e w sw b h
  | exc e S => exact (h1 _ _ h).elim
  | no => exact (h0 h).elim
theorem chk_ok {β : Type} {P : Res β → Prop} {s : Src} {r : Res β} (h : P (chk S s r)) (h0 : P .no → False) : GOk S s ∧ P r := by
  unfold chk at h
  split at h
  · rename_i g; exact ⟨g, h⟩
  · exact (h0 h).elim
noncomputable def forGo (s : Src) (bd : Bnd) (b : Ss) : List PyData → Ss
  | [] => fun ρ S => chk S s (.ok (.nx ρ) S)
  | x :: xs => fun ρ S => chk S s (match bd.go x ρ with
    | some ρ1 => (b ρ1 S).bind fun w S2 => match w with
      | .nx ρ2 => forGo s bd b xs ρ2 S2
      | .ct ρ2 => forGo s bd b xs ρ2 S2
      | .bk ρ2 => .ok (.nx ρ2) S2
      | .rt v => .ok (.rt v) S2
    | none => .no)
noncomputable def sFo (src : SI) (bd : Bnd) (b : Ss) : Ss := fun ρ S => (src ρ S).bind fun s S1 => forGo s bd b s.items ρ S1
theorem sFor {tg iter : Expr} {body : List Stmt} {src : SI} {bd : Bnd} {f : Ss} (hp : PassesOwn (model X.prog X.w) X.A X.env X.xe) (hc : X.calm = true) (hi : PI X tg iter (tI X.K src)) (hg : PG X tg (tG X.K bd)) (hb : PSs X body (tS X.K f))
    (hs : ∀ x, foldedSetIterable iter X.env x = pure x := by intro _; rfl) : PS X (.For tg iter body [] pos) (tS X.K (sFo src bd f)) := PSi (ps_for hp hc hi hg hb hs) fun D σ H h => by
  obtain ⟨A, S, ρ, w, env, p⟩ := h
  refine ⟨A, S, ρ, w, env, PostI.seq (P := PostS X.K A H D) p (fun h => h) (fun _ _ h => h) fun s S1 J B H1 e1 w1 sw b1 p1 => ?_⟩
  refine ⟨fun i m σ H => i + m = s.items.length ∧ ∃ A S ρ, Wf X.K A S H ∧ REnv X.K A H ρ σ ∧ B A H ∧ PostS X.K A H D (forGo s bd f (s.items.drop i) ρ S), ⟨s.items.length, by simp, A, S1, ρ, w1, env.mono e1, b1, PostS.shift p1 e1 w1⟩, ?_⟩
  rintro i m σ H ⟨him, A, S, ρ, w, env, b, p⟩
  by_cases hi : i < s.items.length
  · rw [List.drop_eq_getElem_cons hi] at p
    obtain ⟨g, p⟩ := chk_ok (P := PostS X.K A H D) p fun h => h
    refine .inr ⟨sw.goes i A S H hi w b g, fun σ' H' => ∃ A S ρ, Wf X.K A S H' ∧ REnv X.K A H' ρ σ' ∧ B A H' ∧ PostS X.K A H' D (forGo s bd f (s.items.drop (i + 1)) ρ S), fun σ' H' h => ⟨m - 1, by omega, by omega, h⟩, fun x H' y => ?_⟩
    obtain ⟨d, hd, e2, w2, r2⟩ := sw.yields i A S H x H' hi w b g y
    rw [List.getElem?_eq_getElem hi] at hd
    cases hd
    split at p
    · rename_i ρ1 hρ
      refine ⟨A, ρ, _, ρ1, env.mono e2, r2, hρ, fun σ2 _ _ env2 => ⟨A, S, ρ1, w2, env2, ?_⟩⟩
      have p := PostS.shift p e2 w2
      have b2 := sw.mono _ _ _ _ e2.kx b
      show PostS X.K A H' _ (f ρ1 S)
      cases q : f ρ1 S with
      | no => rw [q] at p; exact p
      | exc e S2 => rw [q] at p; exact p
      | ok v S2 =>
        rw [q] at p
        cases v with
        | nx ρ2 => exact fun A' σ' H' e w3 env3 => ⟨A', S2, ρ2, w3, env3, sw.mono _ _ _ _ e.kx b2, PostS.shift p e w3⟩
        | ct ρ2 => exact fun A' σ' H' e w3 env3 => ⟨A', S2, ρ2, w3, env3, sw.mono _ _ _ _ e.kx b2, PostS.shift p e w3⟩
        | bk ρ2 => exact p
        | rt v => exact p
    · exact p.elim
  · have hn : i = s.items.length := by omega
    subst hn
    rw [List.drop_length] at p
    obtain ⟨g, p⟩ := chk_ok (P := PostS X.K A H D) p fun h => h
    exact .inl ⟨sw.stops A S H w b g, p A σ H .refl w env⟩
end
end MV
set_option Elab.async false
set_option linter.all false
set_option maxRecDepth 100000
/-! Readings by mirrors: comprehensions, what is walked, defs. -/
namespace MV
open PySem PySem.Spec PyProof.Rows L2
section
variable {X : Cx} {K : Frg} {a b : Expr} {fa fb : Sx} {pos : Pos} {A A' A2 : Wd} {H H' H2 : Hp} {S S' : Sto} {Q : VK} {ρ : Envi} {σ : L2.St} {D : Ends}
theorem Rv.kx {v : V} {x : Val} (e : Kx A H A' H') (r : Rv K A H v x) : Rv K A' H' v x := by
  cases x with
  | d x => exact Rp.mono e.2 r
  | c n =>
    obtain ⟨a, h, rfl⟩ := r
    obtain ⟨B, e1⟩ := e.1
    exact ⟨a, by rw [e1, List.getElem?_append_left (List.getElem?_eq_some_iff.mp h).1]; exact h, rfl⟩
  | f k => exact r
  | g cs i => exact r
  | x => exact r
  | z ds => obtain ⟨a, xs, rfl, h, t⟩ := r; exact ⟨a, xs, rfl, h.imp (fun q => e.2.rd q.1 q.2) id, t.mono e.2⟩
theorem REnv.kx (e : Kx A H A' H') (r : REnv K A H ρ σ) : REnv K A' H' ρ σ := ⟨r.len, fun i v h => by
  obtain ⟨x, h1, h2⟩ := r.get i v h
  exact ⟨x, h1, h2.kx e⟩⟩
theorem Wf.protNew {p : Addr} {u : HO} (mu : Mut (some u)) (w : Wf K A S H) (hp : H p = none) : Wf K (A.prot p) S (L2.upd H p u) ∧ Kx A H (A.prot p) (L2.upd H p u) := by
  have kp : Kp A.V H (A.prot p).V (L2.upd H p u) := fun b o h n => ⟨by rw [upd_ne (ne_of_none h hp)]; exact h, fun m => by
    rcases prot_V.mp m with m | m
    · exact n m
    · rw [m, hp] at h; cases h⟩
  refine ⟨⟨w.len, w.nd, w.lt, fun n c k h1 h2 => (w.ok n c k h1 h2).mono kp (fun u e => by rw [upd_ne (ne_of_none e hp)]; exact e) (w.lt n k h2) (fun _ _ _ h => h), fun q hq => ?_⟩, ⟨[], by simp [Wd.prot]⟩, kp⟩
  rcases List.mem_cons.mp (show q ∈ p :: A.P from hq) with m | m
  · rw [m]; exact ⟨w.offA hp, _, upd_same, mu⟩
  · obtain ⟨n, xs, e, mt⟩ := w.pr q m
    exact ⟨n, xs, by rw [upd_ne (ne_of_none e hp)]; exact e, mt⟩
theorem Wf.protUpd {p : Addr} {u : HO} (mu : Mut (some u)) (w : Wf K A S H) (hp : p ∈ A.P) : Wf K A S (L2.upd H p u) ∧ Kx A H A (L2.upd H p u) := by
  have kp : Kp A.V H A.V (L2.upd H p u) := fun b o h n => ⟨by rw [upd_ne (fun z => n (by rw [z]; exact Wd.mem.mpr (.inl hp)))]; exact h, n⟩
  refine ⟨⟨w.len, w.nd, w.lt, fun n c k h1 h2 => (w.ok n c k h1 h2).mono kp (fun u e => ?_) (w.lt n k h2) (fun _ _ _ h => h), fun q hq => ?_⟩, ⟨[], by simp⟩, kp⟩
  · rw [upd_ne (fun z => (w.pr p hp).1 (by rw [← z]; exact List.mem_of_getElem? h1))]; exact e
  · by_cases z : q = p
    · rw [z]; exact ⟨(w.pr p hp).1, _, upd_same, mu⟩
    · obtain ⟨n, ys, e, mt⟩ := w.pr q hq
      exact ⟨n, ys, by rw [upd_ne z]; exact e, mt⟩
theorem Wf.protOut {p : Addr} {k : Cell} (w : Wf K (A.prot p) S H) (hx : CellOk K (A.prot p) H p k) (hn : p ∉ A.P) (hk : k.lt S.length = true := by rfl) : Wf K (A.push p) (S ++ [k]) H := by
  have kp : Kp (A.prot p).V H (A.push p).V H := kp_less fun b m => prot_V.mpr (push_V.mp m)
  obtain ⟨npA, _⟩ := w.pr p (List.mem_cons_self)
  refine ⟨by simp [Wd.push]; exact w.len, ?_, lt_push w.lt hk, fun n c k h1 h2 => ?_, fun q hq => ?_⟩
  · show (A.A ++ [p]).Nodup
    rw [List.nodup_append]
    exact ⟨w.nd, by simp, fun x hx y hy e => by rw [List.mem_singleton.mp hy] at e; exact npA (e ▸ hx)⟩
  · have h1' : (A.A ++ [p])[n]? = some c := h1
    have hl : A.A.length = S.length := w.len
    by_cases hn : n < A.A.length
    · rw [List.getElem?_append_left hn] at h1'
      rw [List.getElem?_append_left (by rw [← hl]; exact hn)] at h2
      exact (w.ok n c k h1' h2).mono kp (fun _ h => h) (w.lt n k h2) fun j b _ h => ix_push (W := A) (m := n) j b h
    · have e2 : n = A.A.length := by
        have := (List.getElem?_eq_some_iff.mp h1').1
        simp at this
        omega
      subst e2
      rw [hl] at h2
      simp at h1' h2
      subst h1' h2
      exact hx.mono kp (fun _ h => h) hk fun j b _ h => ix_push (W := A) (m := 0) j b h
  · obtain ⟨n, y⟩ := w.pr q (List.mem_cons_of_mem _ hq)
    refine ⟨fun m => ?_, y⟩
    rcases List.mem_append.mp m with m | m
    · exact n m
    · rw [List.mem_singleton.mp m] at hq; exact hn hq

/-! ### comprehensions -/
def wipeE (ρ : Envi) (vs : List Nat) : Envi := vs.foldl (fun r i => r.set i none) ρ
theorem wipeE_length (ρ : Envi) : ∀ vs : List Nat, (wipeE ρ vs).length = ρ.length := fun vs => by
  unfold wipeE
  induction vs generalizing ρ with
  | nil => rfl
  | cons v vs ih => rw [List.foldl_cons, ih, List.length_set]
theorem wipeE_get {i : Nat} {v : Val} : ∀ {vs : List Nat} {ρ : Envi}, (wipeE ρ vs)[i]? = some (some v) → ρ[i]? = some (some v) ∧ i ∉ vs
  | [], ρ, h => ⟨h, by simp⟩
  | j :: vs, ρ, h => by
    obtain ⟨h1, h2⟩ := wipeE_get (vs := vs) (ρ := ρ.set j none) h
    by_cases e : i = j
    · subst e
      have hl : i < ρ.length := by
        have := (List.getElem?_eq_some_iff.mp h1).1
        rwa [List.length_set] at this
      rw [List.getElem?_set_self hl] at h1
      cases h1
    · rw [List.getElem?_set_ne (Ne.symm e)] at h1
      exact ⟨h1, by simp [e, h2]⟩
theorem REnv.wipe (env : REnv K A H ρ σ) (vs : List Nat) : REnv K A H (wipeE ρ vs) (wipe σ vs) := ⟨by rw [wipe_length, wipeE_length]; exact env.len, fun i v h => by
  obtain ⟨h1, h2⟩ := wipeE_get h
  obtain ⟨x, h3, h4⟩ := env.get i v h1
  have z : ∀ {vs : List Nat} {σ : L2.St}, i ∉ vs → (L2.wipe σ vs)[i]? = σ[i]? := by
    intro vs
    induction vs with
    | nil => intro σ _; rfl
    | cons j vs ih =>
      intro σ hn
      rw [List.mem_cons, not_or] at hn
      show ((L2.wipe σ vs).set j none)[i]? = _
      rw [List.getElem?_set_ne (Ne.symm hn.1)]
      exact ih hn.2
  exact ⟨x, by rw [z h2]; exact h3, h4⟩⟩
noncomputable def cGo (s : Src) (bd : Bnd) (t : SB) (e : Sx) (ρ : Envi) : List PyData → List PyData → Sto → Res (List PyData)
  | [], acc, S => chk S s (.ok acc S)
  | x :: xs, acc, S => chk S s (match bd.go x ρ with
    | some ρ1 => (t ρ1 S).bind fun k S1 => if k = true then (e ρ1 S1).bind fun v S2 => match v.th with
          | .d y => cGo s bd t e ρ xs (acc ++ [y]) S2
          | _ => .no
        else cGo s bd t e ρ xs acc S1
    | none => .no)
noncomputable def evComp (src : SI) (bd : Bnd) (t : SB) (e : Sx) (own : List Nat) : Sx := fun ρ S => (src ρ S).bind fun s S1 =>
  if s.items.length ≤ sizeLine then (cGo s bd t e (wipeE ρ own) s.items [] S1).bind fun ds S2 => .ok (.f (.lst ds)) S2 else .no
def bYes : SB := fun _ S => .ok true S
theorem wipe_back {σ σ2 : L2.St} {vs : List Nat} (hl : σ2.length = (wipe σ vs).length) (h : ∀ j, j ∉ vs → σ2[j]? = (wipe σ vs)[j]?) : wipe σ2 vs = wipe σ vs := by
  have key : ∀ (vs : List Nat) (σ : L2.St) (i : Nat), (L2.wipe σ vs)[i]? = if i ∈ vs then (if i < σ.length then some none else none) else σ[i]? := by
    intro vs
    induction vs with
    | nil => intro σ i; rfl
    | cons j vs ih =>
      intro σ i
      show ((L2.wipe σ vs).set j none)[i]? = _
      by_cases e : i = j
      · subst e
        rw [if_pos (List.mem_cons_self)]
        by_cases hi : i < σ.length
        · rw [if_pos hi, List.getElem?_set_self (by rw [wipe_length]; exact hi)]
        · rw [if_neg hi]
          exact List.getElem?_eq_none_iff.mpr (by rw [List.length_set, wipe_length]; omega)
      · rw [List.getElem?_set_ne (Ne.symm e), ih]
        simp [e]
  apply List.ext_getElem?
  intro i
  rw [key, key]
  rw [wipe_length] at hl
  by_cases hi : i ∈ vs
  · rw [if_pos hi, if_pos hi, hl]
  · rw [if_neg hi, if_neg hi, h i hi, key, if_neg hi]
theorem comp_ok {src : SI} {bd : Bnd} {t : SB} {e : Sx} {own : List Nat} (hsub : ∀ j ∈ bd.sl, j ∈ own) (h : tE K (evComp src bd t e own) σ H Q) : tLc (tI K src) (tG K bd) (tB K t) (tE K e) own σ H Q := by
  obtain ⟨A, S, ρ, w, env, p⟩ := h
  refine ⟨A, S, ρ, w, env, PostI.seq (P := Post K A H Q) p (fun h => h) (fun _ _ h => h) fun s S1 J B H1 e1 w1 sw b1 p1 => ?_⟩
  split at p1
  case isFalse => exact p1.elim
  rename_i hlen
  intro D hD
  have hDP : D ∉ A.P := fun m => w1.off hD (Wd.mem.mpr (.inl m))
  obtain ⟨wD, kD⟩ := w1.protNew (u := .lst []) trivial hD
  have envD := ((env.mono e1).wipe own).kx kD
  refine ⟨fun i m H' => i + m = s.items.length ∧ ∃ S acc xs, acc.length ≤ i ∧ Wf K (A.prot D) S H' ∧ Ext A H1 A H' ∧ H' D = some (.lst xs) ∧ RpL K (A.prot D).V H' xs acc ∧ B (A.prot D) H' ∧ REnv K (A.prot D) H' (wipeE ρ own) (wipe σ own) ∧
      Post K A H Q ((cGo s bd t e (wipeE ρ own) (s.items.drop i) acc S).bind fun ds S2 => .ok (.f (.lst ds)) S2),
    ⟨s.items.length, by simp, S1, [], [], Nat.zero_le _, wD, .laid hD, upd_same, .nil, sw.mono _ _ _ _ kD b1, envD, p1⟩, ?_⟩
  rintro i m H' ⟨him, S, acc, xs, hacc, w, ex, hx, rx, b, env, p⟩
  by_cases hi : i < s.items.length
  · rw [List.drop_eq_getElem_cons hi] at p
    have p : Post K A H Q ((chk S s (match bd.go s.items[i] (wipeE ρ own) with
      | some ρ1 => (t ρ1 S).bind fun k S1 => if k = true then (e ρ1 S1).bind fun v S2 => match v.th with
            | .d y => cGo s bd t e (wipeE ρ own) (s.items.drop (i + 1)) (acc ++ [y]) S2
            | _ => .no
          else cGo s bd t e (wipeE ρ own) (s.items.drop (i + 1)) acc S1
      | none => .no)).bind fun ds S2 => .ok (.f (.lst ds)) S2) := p
    obtain ⟨g, p⟩ := chk_ok (P := fun r => Post K A H Q (Res.bind r fun ds S2 => .ok (.f (.lst ds)) S2)) p fun h => h
    refine .inr ⟨sw.goes i (A.prot D) S H' hi w b g, fun H' => ∃ S acc xs, acc.length ≤ i + 1 ∧ Wf K (A.prot D) S H' ∧ Ext A H1 A H' ∧ H' D = some (.lst xs) ∧ RpL K (A.prot D).V H' xs acc ∧ B (A.prot D) H' ∧ REnv K (A.prot D) H' (wipeE ρ own) (wipe σ own) ∧
      Post K A H Q ((cGo s bd t e (wipeE ρ own) (s.items.drop (i + 1)) acc S).bind fun ds S2 => .ok (.f (.lst ds)) S2), fun H' h => ⟨m - 1, by omega, by omega, h⟩, fun x H'' y => ?_⟩
    obtain ⟨d, hd, e2, w2, r2⟩ := sw.yields i (A.prot D) S H' x H'' hi w b g y
    rw [List.getElem?_eq_getElem hi] at hd
    cases hd
    have toA : ∀ {H3 H4 : Hp}, Ext (A.prot D) H3 (A.prot D) H4 → Ext A H3 A H4 := fun q => ⟨rfl, ⟨[], by simp⟩, fun _ h => .inl h, q.keep⟩
    have nDA : D ∉ (A.prot D).A := (w.pr D (List.mem_cons_self)).1
    split at p
    · rename_i ρ1 hρ
      refine ⟨A.prot D, wipeE ρ own, _, ρ1, env.mono e2, r2, hρ, fun σ2 hl hj env2 => ⟨wipe_back hl fun j hn => hj j fun m => hn (hsub j m), A.prot D, S, ρ1, w2, env2, ?_⟩⟩
      have p : Post K A H Q ((t ρ1 S).bind fun k S1 => (if k = true then (e ρ1 S1).bind fun v S2 => match v.th with
            | .d y => cGo s bd t e (wipeE ρ own) (s.items.drop (i + 1)) (acc ++ [y]) S2
            | _ => .no
          else cGo s bd t e (wipeE ρ own) (s.items.drop (i + 1)) acc S1).bind fun ds S2 => .ok (.f (.lst ds)) S2) := by
        cases q : t ρ1 S with
        | ok k S1 => rw [q] at p; exact p
        | exc x S1 => rw [q] at p; exact p
        | no => rw [q] at p; exact p
      refine PostB.seq (P := Post K A H Q) p (fun h => h) (fun _ _ h => h) fun k S3 H3 e3 w3 p3 => ?_
      cases k with
      | false =>
        rw [if_neg Bool.false_ne_true] at p3 ⊢
        exact ⟨S3, acc, xs, by omega, w3, ex.trans (toA (e2.trans e3)), (e2.trans e3).keep D _ hx nDA, rx.mono (e2.trans e3).kp, sw.mono _ _ _ _ (e2.trans e3).kx b, env.mono (e2.trans e3), p3⟩
      | true =>
        rw [if_pos rfl] at p3 ⊢
        have p3 : Post K A H Q ((e ρ1 S3).bind fun v S2 => (match v.th with
            | .d y => cGo s bd t e (wipeE ρ own) (s.items.drop (i + 1)) (acc ++ [y]) S2
            | _ => .no).bind fun ds S2 => .ok (.f (.lst ds)) S2) := by
          cases q : e ρ1 S3 with
          | ok k S1 => rw [q] at p3; exact p3
          | exc x S1 => rw [q] at p3; exact p3
          | no => rw [q] at p3; exact p3
        refine at_seq (P := Post K A H Q) w3 (env2.mono e3) p3 (fun h => h) (fun _ _ h => h) fun v S4 y H4 e4 w4 r4 p4 => ?_
        split at p4
        · rename_i yd hy
          rw [hy] at r4
          have e24 := (e2.trans e3).trans e4
          have hx4 := e24.keep D _ hx nDA
          obtain ⟨w5, k5⟩ := w4.protUpd (p := D) (u := .lst (xs ++ [y])) trivial (List.mem_cons_self)
          have r4 : Rp K (A.prot D).V H4 y yd := r4
          refine ⟨xs, hx4, ?_, S4, acc ++ [yd], xs ++ [y], by rw [List.length_append, List.length_singleton]; omega, w5, ?_, upd_same, ((rx.mono e24.kp).append (.cons r4 .nil)).mono k5.2, sw.mono _ _ _ _ k5 (sw.mono _ _ _ _ e24.kx b), (env.mono e24).kx k5, p4⟩
          · rw [rx.length]; omega
          · refine ⟨rfl, ⟨[], by simp⟩, fun _ h => .inl h, fun c o hc nc => ?_⟩
            rw [upd_ne (fun z => by rw [z, hD] at hc; cases hc)]
            exact (ex.trans (toA e24)).keep c o hc nc
        · exact p4.elim
    · exact p.elim
  · have hn : i = s.items.length := by omega
    subst hn
    rw [List.drop_length] at p
    obtain ⟨g, p⟩ := chk_ok (P := fun r => Post K A H Q (Res.bind r fun ds S2 => .ok (.f (.lst ds)) S2)) p fun h => h
    exact .inl ⟨sw.stops (A.prot D) S H' w b g, p D H' (e1.trans ex) (w.protOut (k := .lst _) ⟨_, hx, rx⟩ hDP) (e1.free w1 hD)⟩
end
end MV
set_option Elab.async false
set_option linter.all false
set_option maxRecDepth 100000
/-! Readings by mirrors: the rule for comprehensions, what is walked, defs. -/
namespace MV
open PySem PySem.Spec PyProof.Rows L2
section
variable {X : Cx} {K : Frg} {a b : Expr} {fa fb : Sx} {pos : Pos} {A A' A2 : Wd} {H H' H2 : Hp} {S S' : Sto} {Q : VK} {ρ : Envi} {σ : L2.St} {D : Ends}
theorem PTsi {e : List Expr} {t t' : TT} (h : PTs X e t) (i : ∀ σ H Q, t' σ H Q → t σ H Q) : PTs X e t' := ⟨fun pins s σ H Q I q => h.run pins s σ H Q I (i σ H Q q)⟩
theorem PIi {tg it : Expr} {t t' : TI} (h : PI X tg it t) (i : ∀ σ H R, t' σ H R → t σ H R) : PI X tg it t' := ⟨fun pins s σ H R I q => h.run pins s σ H R I (i σ H R q)⟩
theorem tsN : PTs X [] (tB X.K bYes) := PTsi pts_nil fun σ H Q ⟨A, S, ρ, w, env, p⟩ => p H .refl w
theorem ts1 {c : Expr} {g : SB} (h : PT X c (tB X.K g)) : PTs X [c] (tB X.K g) := pts_one h
section
variable {elt tg iter : Expr} {ifs : List Expr} {scope : Scope} {own : List (Str × Nat)} {src : SI} {bd : Bnd} {t : SB} {e : Sx}
theorem eComp (hc : X.calm = true) (hN : X.N.Nodup) (hi : PI X tg iter (tI X.K src)) (ok : BlkOk X.N X.env.scope scope own) (hsub : ∀ j ∈ bd.sl, j ∈ own.map (·.2))
    (hg : ∀ (s : Shared) (H : Hp) (C : Addr) (cl : List (Str × Addr)) (fp : List Addr), PG (X.blk s H scope (compEnvC scope cl C X.env) fp) tg (tG X.K bd)) (ht : ∀ (s : Shared) (H : Hp) (C : Addr) (cl : List (Str × Addr)) (fp : List Addr), PTs (X.blk s H scope (compEnvC scope cl C X.env) fp) ifs (tB X.K t))
    (he : ∀ (s : Shared) (H : Hp) (C : Addr) (cl : List (Str × Addr)) (fp : List Addr), PE (X.blk s H scope (compEnvC scope cl C X.env) fp) elt (tE X.K e)) (hs : ∀ x, foldedSetIterable iter X.env x = pure x := by intro _; rfl) :
    PE X (.ListComp elt [⟨tg, iter, ifs, 0⟩] scope pos) (tE X.K (evComp src bd t e (own.map (·.2)))) := PEi (pe_lc hc hN hi ok hg ht he hs) fun σ H Q => comp_ok hsub
section
variable {i : Nat} {y : Str} {py spos : Pos}
theorem sSetLc (i : Nat) (hc : X.calm = true) (hN : X.N.Nodup) (hy : X.N[i]? = some y) (hyl : X.env.scope.names.lookup y = some .local) (hsw : swapsWith (.ListComp elt [⟨tg, iter, ifs, 0⟩] scope pos) (some (.Name y py)) spos.line X.env = pure true)
    (hi : PI X tg iter (tI X.K src)) (ok : BlkOk X.N X.env.scope scope own) (hsub : ∀ j ∈ bd.sl, j ∈ own.map (·.2))
    (hg : ∀ (s : Shared) (H : Hp) (C : Addr) (cl : List (Str × Addr)) (fp : List Addr), PG (X.blk s H scope (compEnvC scope cl C X.env) fp) tg (tG X.K bd)) (ht : ∀ (s : Shared) (H : Hp) (C : Addr) (cl : List (Str × Addr)) (fp : List Addr), PTs (X.blk s H scope (compEnvC scope cl C X.env) fp) ifs (tB X.K t))
    (he : ∀ (s : Shared) (H : Hp) (C : Addr) (cl : List (Str × Addr)) (fp : List Addr), PE (X.blk s H scope (compEnvC scope cl C X.env) fp) elt (tE X.K e)) (hs : ∀ x, foldedSetIterable iter X.env x = pure x := by intro _; rfl) :
    PS X (.Assign [.Name y py] (.ListComp elt [⟨tg, iter, ifs, 0⟩] scope pos) spos) (tS X.K (sSet i (evComp src bd t e (own.map (·.2))))) := PSi (ps_setLc hc hN hy hyl hsw hi ok hg ht he hs) fun D σ H h => comp_ok hsub (set_ok h)
theorem sCellLc (i : Nat) (hc : X.calm = true) (hN : X.N.Nodup) (hy : X.N[i]? = some y) (hyl : X.env.scope.names.lookup y = some .local) (hsw : swapsWith (.ListComp elt [⟨tg, iter, ifs, 0⟩] scope pos) (some (.Name y py)) spos.line X.env = pure true)
    (hi : PI X tg iter (tI X.K src)) (ok : BlkOk X.N X.env.scope scope own) (hsub : ∀ j ∈ bd.sl, j ∈ own.map (·.2))
    (hg : ∀ (s : Shared) (H : Hp) (C : Addr) (cl : List (Str × Addr)) (fp : List Addr), PG (X.blk s H scope (compEnvC scope cl C X.env) fp) tg (tG X.K bd)) (ht : ∀ (s : Shared) (H : Hp) (C : Addr) (cl : List (Str × Addr)) (fp : List Addr), PTs (X.blk s H scope (compEnvC scope cl C X.env) fp) ifs (tB X.K t))
    (he : ∀ (s : Shared) (H : Hp) (C : Addr) (cl : List (Str × Addr)) (fp : List Addr), PE (X.blk s H scope (compEnvC scope cl C X.env) fp) elt (tE X.K e)) (hs : ∀ x, foldedSetIterable iter X.env x = pure x := by intro _; rfl) :
    PS X (.Assign [.Name y py] (.ListComp elt [⟨tg, iter, ifs, 0⟩] scope pos) spos) (tS X.K (sCell i (evComp src bd t e (own.map (·.2))))) := PSi (ps_setLc hc hN hy hyl hsw hi ok hg ht he hs) fun D σ H h => comp_ok hsub (cell_ok h)
end
end

/-! ### rows of things -/
def seqOf (S : Sto) : Val → Option (Bool × List PyData × List (Nat × List PyData))
  | .d (.tuple ds) => some (true, ds, [])
  | .d (.list ds) => some (false, ds, [])
  | .z ds => some (false, ds, [])
  | .c n => match S[n]? with
    | some (.lst ds) => some (false, ds, [(n, ds)])
    | _ => none
  | _ => none
def SqA (K : Frg) (t : Bool) (H : Hp) (a : Addr) (xs : List V) : Prop := if t = true then SqT K H a xs else SqL K H a xs
theorem seq_stand {x : V} {v : Val} {S0 : Sto} {t : Bool} {ds : List PyData} {g : List (Nat × List PyData)} (h : seqOf S0 v = some (t, ds, g)) (w : Wf K A S H) (r : Rv K A H x v) (hg : ∀ p ∈ g, S[p.1]? = some (.lst p.2)) :
    ∃ a xs, x = .ref a ∧ RpL K A.V H xs ds ∧ SqA K t H a xs := by
  cases v with
  | f k => cases h
  | g cs i => cases h
  | x => cases h
  | d y =>
    cases y with
    | tuple es =>
      cases h
      have r' : Rp K A.V H x (.tuple ds) := r
      cases r' with | tup l q => exact ⟨_, _, rfl, q, l.seq⟩
    | list es =>
      cases h
      have r' : Rp K A.V H x (.list ds) := r
      cases r' with | lst l q => exact ⟨_, _, rfl, q, l.seq⟩
    | _ => cases h
  | z es =>
    cases h
    obtain ⟨a, xs, rfl, h1, q⟩ := r
    exact ⟨a, xs, rfl, q, h1.elim (fun z => .inl z.1) klst_seq⟩
  | c n =>
    have h : (match S0[n]? with
      | some (.lst es) => some (false, es, [(n, es)])
      | _ => none) = some (t, ds, g) := h
    split at h
    · rename_i es q
      cases h
      have e := hg (n, ds) (by simp)
      obtain ⟨a, h1, rfl⟩ := r
      obtain ⟨xs, h2, h3⟩ := w.ok n a _ h1 e
      exact ⟨a, xs, rfl, h3, .inl (.inl h2)⟩
    · cases h
theorem seq_now {v : Val} {t : Bool} {ds : List PyData} {g : List (Nat × List PyData)} (h : seqOf S v = some (t, ds, g)) : ∀ p ∈ g, S[p.1]? = some (.lst p.2) := by
  cases v with
  | f k => cases h
  | g cs i => cases h
  | x => cases h
  | d y => cases y <;> first | (cases h; done) | (cases h; simp)
  | z es => cases h; simp
  | c n =>
    have h : (match S[n]? with
      | some (.lst es) => some (false, es, [(n, es)])
      | _ => none) = some (t, ds, g) := h
    split at h
    · rename_i es q
      cases h
      simpa using q
    · cases h
theorem seq_at {x : V} {v : Val} {t : Bool} {ds : List PyData} {g : List (Nat × List PyData)} (h : seqOf S v = some (t, ds, g)) (w : Wf K A S H) (r : Rv K A H x v) : ∃ a xs, x = .ref a ∧ RpL K A.V H xs ds ∧ SqA K t H a xs := seq_stand h w r (seq_now h)

/-! ### what is walked: a row -/
theorem src_list {v : Val} {S0 : Sto} {ds : List PyData} {g : List (Nat × List PyData)} {a : Addr} (h : seqOf S0 v = some (false, ds, g)) : SrcW K (Itl K a) ⟨ds, g⟩ (fun A H => Rv K A H (.ref a) v) where
  mono := fun A H A' H' e r => r.kx e
  goes := fun i A S H hi w r gk => by
    obtain ⟨b, xs, eb, q, sq⟩ := seq_stand h w r gk
    cases eb
    obtain ⟨y, hy, _⟩ := q.get (List.getElem?_eq_getElem hi)
    exact ⟨xs, y, sq, hy⟩
  stops := fun A S H w r gk => by
    obtain ⟨b, xs, eb, q, sq⟩ := seq_stand h w r gk
    cases eb
    exact ⟨xs, sq, Nat.le_of_eq q.length⟩
  yields := fun i A S H x H' hi w r gk y => by
    obtain ⟨b, xs, eb, q, sq⟩ := seq_stand h w r gk
    cases eb
    obtain ⟨rfl, y⟩ := y
    obtain ⟨d, hd, rd⟩ := q.getV (y xs sq)
    exact ⟨d, hd, .refl, w, rd⟩
theorem src_tup {v : Val} {S0 : Sto} {ds : List PyData} {g : List (Nat × List PyData)} {a : Addr} (h : seqOf S0 v = some (true, ds, g)) : SrcW K (Itt K a) ⟨ds, g⟩ (fun A H => Rv K A H (.ref a) v) where
  mono := fun A H A' H' e r => r.kx e
  goes := fun i A S H hi w r gk => by
    obtain ⟨b, xs, eb, q, sq⟩ := seq_stand h w r gk
    cases eb
    obtain ⟨y, hy, _⟩ := q.get (List.getElem?_eq_getElem hi)
    exact ⟨xs, y, sq, hy⟩
  stops := fun A S H w r gk => by
    obtain ⟨b, xs, eb, q, sq⟩ := seq_stand h w r gk
    cases eb
    exact ⟨xs, sq, Nat.le_of_eq q.length⟩
  yields := fun i A S H x H' hi w r gk y => by
    obtain ⟨b, xs, eb, q, sq⟩ := seq_stand h w r gk
    cases eb
    obtain ⟨rfl, y⟩ := y
    obtain ⟨d, hd, rd⟩ := q.getV (y xs sq)
    exact ⟨d, hd, .refl, w, rd⟩
def iSeq (f : Sx) : SI := fun ρ S => (f ρ S).bind fun v S1 => match seqOf S1 v.th with
  | some (_, ds, g) => .ok ⟨ds, g⟩ S1
  | none => .no
theorem one_fp {pins : List (Addr × Obj)} {s : Shared} (I : Inv X pins σ H s) : ∀ b ∈ [s.heap.objs.size], FpOk X pins H b := fun b hb => by
  rw [List.mem_singleton.mp hb]
  exact I.fpOk (Nat.le_refl _) (I.hok.fresh (Nat.le_refl _))
theorem iS {tg l : Expr} {f : Sx} (hl : PE X l (tE X.K f)) : PI X tg l (tI X.K (iSeq f)) := ⟨fun pins s σ H R I h => by
  obtain ⟨A, S, ρ, w, env, p⟩ := h
  refine thn (hl.run pins s σ H (fun x H1 => ∃ a S1 v t ds g, x = .ref a ∧ Wf X.K A S1 H1 ∧ Rv X.K A H1 (.ref a) v ∧ seqOf S1 v = some (t, ds, g) ∧ ∀ J B, SrcW X.K J ⟨ds, g⟩ B → B A H1 → R J H1) I ⟨A, S, ρ, w, env, ?_⟩) fun v s1 ⟨x, H1, I1, r1, a, S1, u, t, ds, g, ex, w1, ru, hq, q⟩ => ?_
  · refine Post.seq (P := PostI X.K A H R) p (fun h => h) (fun _ _ h => h) fun v S1 x H1 e1 w1 r1 p1 => ?_
    split at p1
    · rename_i t ds g hq
      obtain ⟨a, xs, rfl, _, _⟩ := seq_at hq w1 r1
      exact ⟨a, S1, v.th, t, ds, g, rfl, w1, r1, hq, fun J B sw b => p1 J B H1 e1 w1 sw b⟩
    · exact p1.elim
  · subst ex
    cases r1
    obtain ⟨b, xs, eb, _, sq⟩ := seq_at hq w1 ru
    cases eb
    cases t with
    | true =>
      obtain ⟨its, rv, ht, hz⟩ := I1.tuple (show SqT X.K H1 a xs from sq)
      refine wpAny_pyIter_tuple (show s1.heap.IsTuple a its.toArray from ht) ⟨s1.heap.objs.size, [s1.heap.objs.size], _, _, H1, rfl, ?_, turn_tuple a _, ⟨_, Heap.get?_push_size _ rfl, rfl, rfl⟩, one_fp I1, q _ _ (src_tup hq) ru⟩
      exact I1.kept (t' := s1.toks) fun b o e => Heap.get?_push_of_some _ e
    | false =>
      obtain ⟨its, rv, pl, hz⟩ := I1.list (show SqL X.K H1 a xs from sq)
      refine wpAny_pyIter_list pl.isList ⟨s1.heap.objs.size, [s1.heap.objs.size], _, _, H1, rfl, ?_, turn_list a _, ⟨_, Heap.get?_push_size _ rfl, rfl, rfl⟩, one_fp I1, q _ _ (src_list hq) ru⟩
      exact I1.kept (t' := s1.toks) fun b o e => Heap.get?_push_of_some _ e⟩

/-! ### .. a range -/
def iota (lo : Int) (n : Nat) : List PyData := (List.range n).map fun (i : Nat) => .int (lo + i)
theorem iota_length (lo : Int) (n : Nat) : (iota lo n).length = n := by simp [iota]
theorem iota_get {lo : Int} {n i : Nat} (h : i < n) : (iota lo n)[i]? = some (.int (lo + i)) := by simp [iota, h]
theorem src_range {lo : Int} {n : Nat} : SrcW K (Itr lo n) ⟨iota lo n, []⟩ (fun _ _ => True) where
  mono := fun _ _ _ _ _ _ => trivial
  goes := fun i A S H hi w _ _ => by rw [iota_length] at hi; exact hi
  stops := fun A S H w _ _ => by rw [iota_length]; exact Nat.le_refl _
  yields := fun i A S H x H' hi w _ _ y => by
    obtain ⟨rfl, rfl⟩ := y
    rw [iota_length] at hi
    exact ⟨_, iota_get hi, .refl, w, .int _⟩
def gRange1 : List Val → Option Src
  | [.d (.int j)] => if -(2 ^ 62) ≤ j ∧ j < 2 ^ 62 then some ⟨iota 0 j.toNat, []⟩ else none
  | _ => none
def gRange2 : List Val → Option Src
  | [.d (.int i), .d (.int j)] => if -(2 ^ 62) ≤ i ∧ i < 2 ^ 62 ∧ -(2 ^ 62) ≤ j ∧ j < 2 ^ 62 then some ⟨iota i (j - i).toNat, []⟩ else none
  | _ => none
def iBy (g : List Val → Option Src) (f : SA) : SI := fun ρ S => (f ρ S).bind fun vs S1 => match g vs with
  | some s => .ok s S1
  | none => .no
theorem iR1 {tg e : Expr} {f : SA} {p : Pos} (hg : Gl X "range") (hm : X.mg "range" = none) (ha : PA X [e] (tAr X.K f)) (hs : starEach [e] X.env = [(false, eval e X.env)] := by rfl) : PI X tg (.Call (.Name "range" p) [e] [] pos) (tI X.K (iBy gRange1 f)) :=
  PIi (pi_range1 hg hm ha hs) fun σ H R ⟨A, S, ρ, w, env, p⟩ => ⟨A, S, ρ, w, env, PostA.seq (P := PostI X.K A H R) p (fun h => h) (fun _ _ h => h) fun vs S1 xs H1 e1 w1 r1 p1 => by
    split at p1
    · rename_i s hs
      unfold gRange1 at hs
      split at hs
      · split at hs
        · rename_i c
          cases hs
          cases r1 with | cons q r1 => cases r1; cases q; exact ⟨_, rfl, c.1, c.2, p1 _ _ H1 e1 w1 src_range trivial⟩
        · cases hs
      · cases hs
    · exact p1.elim⟩
theorem iR2 {tg e e2 : Expr} {f : SA} {p : Pos} (hg : Gl X "range") (hm : X.mg "range" = none) (ha : PA X [e, e2] (tAr X.K f)) (hs : starEach [e, e2] X.env = [(false, eval e X.env), (false, eval e2 X.env)] := by rfl) (hs2 : starEach [e2] X.env = [(false, eval e2 X.env)] := by rfl) :
    PI X tg (.Call (.Name "range" p) [e, e2] [] pos) (tI X.K (iBy gRange2 f)) :=
  PIi (pi_range2 hg hm ha hs hs2) fun σ H R ⟨A, S, ρ, w, env, p⟩ => ⟨A, S, ρ, w, env, PostA.seq (P := PostI X.K A H R) p (fun h => h) (fun _ _ h => h) fun vs S1 xs H1 e1 w1 r1 p1 => by
    split at p1
    · rename_i s hs
      unfold gRange2 at hs
      split at hs
      · split at hs
        · rename_i c
          cases hs
          cases r1 with | cons q r1 => cases r1 with | cons q2 r1 => cases r1; cases q; cases q2; exact ⟨_, _, rfl, c, p1 _ _ H1 e1 w1 src_range trivial⟩
        · cases hs
      · cases hs
    · exact p1.elim⟩

/-! ### defs -/
def out (n : Nat) (S : Sto) : Val → Res Val
  | .c j => if j < n then .ok (.c j) (S.take n) else match S[j]? with
    | some k => if k.lt n = true then .ok (.f k) (S.take n) else .ok (.g (S.drop n) (j - n)) (S.take n)
    | none => .no
  | .f k => if k.lt n = true then .ok (.f k) (S.take n) else .ok (.g (S.drop n ++ [k]) (S.length - n)) (S.take n)
  | .g cs i => .ok (.g (S.drop n ++ cs) (S.length - n + i)) (S.take n)
  | v => .ok v (S.take n)
theorem Ext.fresh {W W' : Wd} {H H' : Hp} (e : Ext W H W' H') (nd : W'.A.Nodup) : ∃ B, W' = W.pushs B ∧ ∀ b ∈ B, H b = none := by
  obtain ⟨B, h1⟩ := e.pre
  refine ⟨B, ?_, fun b hb => ?_⟩
  · cases W'
    have h2 := e.pr
    dsimp only at h1 h2
    subst h1 h2
    rfl
  · rcases e.new b (by rw [h1]; exact List.mem_append_right _ hb) with q | q
    · rw [h1, List.nodup_append] at nd
      exact (nd.2.2 b q b hb rfl).elim
    · exact q
def mkFn (np N : Nat) (body : Ss) : Fn := fun vs S => if vs.length = np then (body (vs.map some ++ List.replicate (N - np) none) S).bind fun w S1 => match w with
    | .nx _ => .ok (.d .none) (S1.take S.length)
    | .rt v => out S.length S1 v
    | _ => .no
  else .no
theorem fn_ok {P : Program} {w : World} {mg : Str → Option Value} {base : Heap} {x qual : Str} {st : Stmt} {f : Addr} {fd : FuncData} {N ps : List Str} {k np : Nat} {body : Ss} (F : Fun K x qual st f fd) (S : FnScope N ps (defScope st)) (hnp : ps.length = np)
    (h : ∀ (cdv : Value) (A : Around) (outer : List PySem.Env) (s : Shared) (H : Hp) (E : XK), Room k (A.deeper (envOfC qual (defScope st) s.heap.objs.size f cdv)) → A.guards = some [] → PSs (cxOf CX0 P w K mg base N qual (defScope st) f cdv A outer s H E).nox (defBody st) (tS K body)) :
    FnG P w K mg base (k + 1) f fd ps (spF K (mkFn np N.length body)) := by
  refine fnG_of F S (fun xs H Q E h => ?_) (fun cdv A outer s H xs Q E hr gd hp => ⟨_, h cdv A outer s H E hr gd, ?_⟩)
  · obtain ⟨A, S, vs, _, r, p⟩ := h
    unfold mkFn at p
    split at p
    · rename_i hl
      rw [Paired.length r, hl, hnp]
    · exact p.elim
  · obtain ⟨A, St, vs, w, r, p⟩ := hp
    unfold mkFn at p
    split at p
    case isFalse => exact p.elim
    rename_i hl
    have hxl : xs.length = np := (Paired.length r).trans hl
    show tS K body _ (L2.start N xs) H
    refine ⟨A, St, vs.map some ++ List.replicate (N.length - np) none, w, ?_, ?_⟩
    · refine ⟨by simp [L2.start, hxl, hl], fun i v hi => ?_⟩
      by_cases c : i < vs.length
      · rw [List.getElem?_append_left (by rw [List.length_map]; exact c), List.getElem?_map, List.getElem?_eq_getElem c] at hi
        simp at hi
        subst hi
        have z : ∀ {xs : List V} {vs : List Val} {i : Nat} (c : i < vs.length), RvL K A H xs vs → ∃ x, xs[i]? = some x ∧ Rv K A H x vs[i] := by
          intro xs vs i c r
          induction r generalizing i with
          | nil => simp at c
          | cons h t ih =>
            cases i with
            | zero => exact ⟨_, rfl, h⟩
            | succ i => exact ih (i := i) (by simpa using c)
        obtain ⟨y, h1, h2⟩ := z c r
        refine ⟨y, ?_, h2⟩
        unfold L2.start
        rw [List.getElem?_append_left (by rw [List.length_map, hxl, ← hl]; exact c), List.getElem?_map, h1]; rfl
      · rw [List.getElem?_append_right (by rw [List.length_map]; omega)] at hi
        have := List.mem_of_getElem? hi
        simp at this
    · show PostS K A H { nx := fun _ H' => Q .non H', rt := Q } (body (vs.map some ++ List.replicate (N.length - np) none) St)
      generalize hr : body (vs.map some ++ List.replicate (N.length - np) none) St = r at p ⊢
      cases r with
      | no => exact p
      | exc e S1 => exact p
      | ok v S1 =>
        have hsl : ∀ {A' H'}, Ext A H A' H' → Wf K A' S1 H' → Wf K A (S1.take St.length) H' := fun e w1 => by
          rw [← w.len]; exact w1.less e
        cases v with
        | nx ρ1 => exact fun A' σ' H' e w1 _ => p .non H' (Ext.less (B := []) e) (hsl e w1) .non
        | bk ρ1 => exact p.elim
        | ct ρ1 => exact p.elim
        | rt v =>
          have p : Post K A H Q (out St.length S1 v) := p
          have lessV : ∀ {A' : Wd} {H' : Hp}, Ext A H A' H' → ∀ b, b ∈ A.V → b ∈ A'.V := fun {A' H'} e b m => by
            rw [Wd.mem] at m ⊢
            obtain ⟨B, h1⟩ := e.pre
            rw [e.pr, h1]
            exact m.imp id fun m => List.mem_append_left _ m
          have lessRp : ∀ {A' : Wd} {H' : Hp} {v : V} {d : PyData}, Ext A H A' H' → Rp K A'.V H' v d → Rp K A.V H' v d := fun {A' H' v d} e r => r.mono (kp_less (lessV e))
          cases v with
          | d x => exact fun A' v H' e w1 r => p v H' (Ext.less (B := []) e) (hsl e w1) (lessRp e r)
          | z ds =>
            intro A' v H' e w1 r
            obtain ⟨a, ys, rfl, h1, t1⟩ := r
            exact p _ H' (Ext.less (B := []) e) (hsl e w1) ⟨a, ys, rfl, h1.imp (fun q => ⟨q.1, fun m => q.2 (lessV e a m)⟩) id, t1.mono (kp_less (lessV e))⟩
          | x => exact fun A' v H' e w1 => p v H' (Ext.less (B := []) e) (hsl e w1)
          | g cs i =>
            intro A' as a H' e w1 hn hl hi
            obtain ⟨B, rfl, hB⟩ := e.fresh (by have := w1.nd; exact (List.nodup_append.mp this).1)
            have p : Post K A H Q (.ok (.g (S1.drop St.length ++ cs) (S1.length - St.length + i)) (S1.take St.length)) := p
            have l1 := w.len
            have l2 := w1.len
            simp [Wd.pushs] at l2
            refine p (B ++ as) a H' (Ext.less (B := []) e) ?_ (fun b hb => ?_) (by simp; omega) ?_
            · rw [← List.append_assoc, List.take_append_drop]
              have e2 : (A.pushs B).pushs as = A.pushs (B ++ as) := by simp [Wd.pushs]
              rw [← e2]; exact w1
            · rcases List.mem_append.mp hb with m | m
              · exact hB b m
              · exact hn b m
            · rw [List.getElem?_append_right (by omega)]
              rw [show S1.length - St.length + i - B.length = i by omega]; exact hi
          | f k =>
            intro A' a H' e w1 hn
            have p : Post K A H Q (if k.lt St.length = true then .ok (.f k) (S1.take St.length) else .ok (.g (S1.drop St.length ++ [k]) (S1.length - St.length)) (S1.take St.length)) := p
            obtain ⟨w2, c, na⟩ := w1.drop1
            have e2 : Ext A H (A'.push a) H' := by
              refine ⟨e.pr, ?_, fun b m => ?_, e.keep⟩
              · obtain ⟨B, h1⟩ := e.pre
                exact ⟨B ++ [a], by show A'.A ++ [a] = _; rw [h1, List.append_assoc]⟩
              · rcases List.mem_append.mp m with m | m
                · exact e.new b m
                · rw [List.mem_singleton.mp m]; exact .inr hn
            by_cases hk : k.lt St.length = true
            · rw [if_pos hk] at p
              have hp := w1.pick (j := A'.A.length) (a := a) (k := k) e2 (by obtain ⟨B, h1⟩ := e.pre; rw [h1]; simp) (by simp [Wd.push]) (by rw [w2.len]; simp) (by rw [w.len]; exact hk)
              refine p a H' (Ext.less (B := []) e) ?_ hn
              have q := hp.1
              have hle : A.A.length ≤ S1.length := by rw [← w2.len]; obtain ⟨B, h1⟩ := e.pre; rw [h1]; simp
              rw [List.take_append_of_le_length hle, w.len] at q
              exact q
            · rw [if_neg hk] at p
              obtain ⟨B, rfl, hB⟩ := e.fresh w2.nd
              have l1 := w.len
              have l2 := w2.len
              simp [Wd.pushs] at l2
              refine p (B ++ [a]) a H' (Ext.less (B := []) e) ?_ (fun b hb => ?_) (by simp; omega) ?_
              · rw [← List.append_assoc, List.take_append_drop]
                have e3 : (A.pushs B).push a = A.pushs (B ++ [a]) := by simp [Wd.pushs, Wd.push]
                rw [← e3]; exact w1
              · rcases List.mem_append.mp hb with m | m
                · exact hB b m
                · rw [List.mem_singleton.mp m]; exact hn
              · rw [List.getElem?_append_right (by omega)]
                rw [show S1.length - St.length - B.length = 0 by omega]; rfl
          | c j =>
            intro A' a H' e w1 hj
            have p : Post K A H Q (if j < St.length then .ok (.c j) (S1.take St.length) else match S1[j]? with
              | some k => if k.lt St.length = true then .ok (.f k) (S1.take St.length) else .ok (.g (S1.drop St.length) (j - St.length)) (S1.take St.length)
              | none => .no) := p
            by_cases hjn : j < St.length
            · rw [if_pos hjn] at p
              refine p a H' (Ext.less (B := []) e) (hsl e w1) ?_
              obtain ⟨B, h1⟩ := e.pre
              rw [h1, List.getElem?_append_left (by rw [w.len]; exact hjn)] at hj
              exact hj
            · rw [if_neg hjn] at p
              split at p
              · rename_i k hk
                by_cases hlk : k.lt St.length = true
                · rw [if_pos hlk] at p
                  have hp := w1.pick (j := j) (a := a) (k := k) e (by rw [w.len]; omega) hj hk (by rw [w.len]; exact hlk)
                  have q := hp.1
                  rw [w.len] at q
                  exact p a H' (Ext.less (B := []) e) q hp.2
                · rw [if_neg hlk] at p
                  obtain ⟨B, rfl, hB⟩ := e.fresh w1.nd
                  have l1 := w.len
                  have l2 := w1.len
                  simp [Wd.pushs] at l2
                  refine p B a H' (Ext.less (B := []) e) ?_ hB (by simp; omega) ?_
                  · rw [List.take_append_drop]; exact w1
                  · have hj : (A.A ++ B)[j]? = some a := hj
                    rw [List.getElem?_append_right (by omega), l1] at hj; exact hj
              · exact p.elim
end
end MV
set_option Elab.async false
set_option linter.all false
set_option maxRecDepth 100000
/-! Readings by mirrors: operators, subscripts, slices. -/
namespace MV
open PySem PySem.Spec PyProof.Rows L2
section
variable {X : Cx} {K : Frg} {a b : Expr} {fa fb : Sx} {pos : Pos} {A A' A2 : Wd} {H H' H2 : Hp} {S S' : Sto} {Q : VK} {ρ : Envi} {σ : L2.St} {D : Ends}
/-! ### views -/
def asL (S : Sto) : Val → Option (List PyData)
  | .d (.list ds) => some ds
  | .c n => match S[n]? with
    | some (.lst ds) => some ds
    | _ => none
  | _ => none
theorem asL_ok {x : V} {v : Val} {ds : List PyData} (w : Wf K A S H) (r : Rv K A H x v) (h : asL S v = some ds) : ∃ a xs, x = .ref a ∧ H a = some (.lst xs) ∧ RpL K A.V H xs ds := by
  cases v with
  | f k => cases h
  | g cs i => cases h
  | x => cases h
  | z es => cases h
  | d y =>
    cases y with
    | list es =>
      cases h
      have r' : Rp K A.V H x (.list ds) := r
      cases r' with | lst l q => exact ⟨_, _, rfl, l.1, q⟩
    | _ => cases h
  | c n =>
    have h : (match S[n]? with
      | some (.lst es) => some es
      | _ => none) = some ds := h
    split at h
    · rename_i es q
      cases h
      obtain ⟨a, h1, rfl⟩ := r
      obtain ⟨xs, h2, h3⟩ := w.ok n a _ h1 q
      exact ⟨a, xs, rfl, h2, h3⟩
    · cases h
/-- as a datum -/
def asD (S : Sto) : Val → Option PyData
  | .d x => some x
  | .z ds => some (.list ds)
  | .c n => match S[n]? with
    | some (.lst ds) => some (.list ds)
    | _ => none
  | _ => none
theorem asD_dp {x : V} {v : Val} {y : PyData} (w : Wf K A S H) (r : Rv K A H x v) (h : asD S v = some y) (c : y.canLay0 = true) : Dp K H x y := by
  cases v with
  | f k => cases h
  | g cs i => cases h
  | x => cases h
  | d z => cases h; exact Rp.dp _ _ c r
  | z ds =>
    cases h
    obtain ⟨a, xs, rfl, h1, t⟩ := r
    exact .lst (h1.elim (fun z => .inl z.1) klst_seq) (RpL.dp _ _ (by simpa [PyData.canLay0] using c) t)
  | c n =>
    have h : (match S[n]? with
      | some (.lst es) => some (.list es)
      | _ => none) = some y := h
    split at h
    · rename_i es q
      cases h
      obtain ⟨a, h1, rfl⟩ := r
      obtain ⟨xs, h2, h3⟩ := w.ok n a _ h1 q
      exact .lst (.inl (.inl h2)) (RpL.dp _ _ (by simpa [PyData.canLay0] using c) h3)
    · cases h

/-! ### whole numbers -/
def gInt (C : Int → Int → Bool) (g : Int → Int → PyData) : Val → Val → Sto → Res Val
  | .d (.int i), .d (.int j), S => if C i j = true then .ok (.d (g i j)) S else .no
  | _, _, _ => .no
theorem Rp.int_inv {L : List Addr} {x : V} {i : Int} (r : Rp K L H x (.int i)) : x = .int i := by cases r; rfl
theorem Rp.str_inv {L : List Addr} {x : V} {i : Str} (r : Rp K L H x (.str i)) : x = .str i := by cases r; rfl
theorem Rp.bl_inv {L : List Addr} {x : V} {i : Bool} (r : Rp K L H x (.bool i)) : x = .bl i := by cases r; rfl
theorem oInt {f : Value → Value → Sem Value} {C : Int → Int → Prop} {Cb : Int → Int → Bool} {g : Int → Int → V} {gd : Int → Int → PyData} (h : OpR X f (rI C g)) (hC : ∀ i j, Cb i j = true → C i j) (hg : ∀ i j L H, Rp X.K L H (g i j) (gd i j)) : ORul X f (gInt Cb gd) := by
  intro pins s σ A S H x y u u' v w Q I wf rv rw ru ru' p
  unfold gInt at p
  split at p
  · split at p
    · rename_i c
      exact h pins s σ H x y u u' Q I ru ru' ⟨_, _, Rp.int_inv rv, Rp.int_inv rw, hC _ _ c, p _ H .refl wf (hg _ _ _ _)⟩
    · exact p.elim
  · exact p.elim
theorem oInt0 {f : Value → Value → Sem Value} {g : Int → Int → V} {gd : Int → Int → PyData} (h : OpR X f (rI0 g)) (hg : ∀ i j L H, Rp X.K L H (g i j) (gd i j)) : ORul X f (gInt (fun _ _ => true) gd) := by
  intro pins s σ A S H x y u u' v w Q I wf rv rw ru ru' p
  unfold gInt at p
  split at p
  · exact h pins s σ H x y u u' Q I ru ru' ⟨_, _, Rp.int_inv rv, Rp.int_inv rw, p _ H .refl wf (hg _ _ _ _)⟩
  · exact p.elim
def gSub := gInt (fun _ _ => true) fun i j => .int (i - j)
theorem oSub : ORul X (binaryOp .Sub) gSub := oInt0 op_sub fun _ _ _ _ => .int _
def gDiv := gInt (fun _ j => decide (0 < j ∧ j.natAbs.log2 < 9000)) fun i j => .int (i / j)
theorem oDiv : ORul X (binaryOp .FloorDiv) gDiv := oInt op_fdivW (fun _ j h => (show 0 < j ∧ j.natAbs.log2 < 9000 from of_decide_eq_true h)) fun _ _ _ _ => .int _
def gMod := gInt (fun _ j => decide (0 < j)) fun i j => .int (i % j)
theorem oMod : ORul X (binaryOp .Mod) gMod := oInt op_mod (fun _ _ h => of_decide_eq_true h) fun _ _ _ _ => .int _
theorem op_powX : OpR X (binaryOp .Pow) (rI (fun i j => 0 ≤ j ∧ (Builtin.Int.intBits i : Int) * j ≤ 2 ^ 27) fun i j => .int (i ^ j.toNat)) := opI fun _ _ _ _ _ _ _ hc q => pow_int hc.1 hc.2 q
def gPow := gInt (fun i j => decide (0 ≤ j ∧ (Builtin.Int.intBits i : Int) * j ≤ 2 ^ 27)) fun i j => .int (i ^ j.toNat)
theorem oPow : ORul X (binaryOp .Pow) gPow := oInt op_powX (fun _ _ h => of_decide_eq_true h) fun _ _ _ _ => .int _
def gShl := gInt (fun i j => decide (0 ≤ j ∧ j ≤ 1000000 ∧ i.natAbs < 2 ^ 64)) fun i j => .int (i * 2 ^ j.toNat)
theorem oShl : ORul X (binaryOp .LShift) gShl := oInt op_shl (fun i j h => (show 0 ≤ j ∧ j ≤ 1000000 ∧ i.natAbs < 2 ^ 64 from of_decide_eq_true h)) fun _ _ _ _ => .int _
def gShr := gInt (fun _ j => decide (0 ≤ j)) fun i j => .int (i / 2 ^ j.toNat)
theorem oShr : ORul X (binaryOp .RShift) gShr := oInt op_shr (fun _ _ h => of_decide_eq_true h) fun _ _ _ _ => .int _
def gAnd := gInt (fun _ _ => true) fun i j => .int (Builtin.bitAnd i j)
theorem oAnd : ORul X (binaryOp .BitAnd) gAnd := oInt0 op_and fun _ _ _ _ => .int _
def gOr := gInt (fun _ _ => true) fun i j => .int (Builtin.bitOr i j)
theorem oOr : ORul X (binaryOp .BitOr) gOr := oInt0 op_or fun _ _ _ _ => .int _
def gXor := gInt (fun _ _ => true) fun i j => .int (Builtin.bitXor i j)
theorem oXor : ORul X (binaryOp .BitXor) gXor := oInt0 op_xor fun _ _ _ _ => .int _
def evUn (g : Int → Int) (f : Sx) : Sx := fun ρ S => (f ρ S).bind fun v S1 => match v with
  | .d (.int i) => .ok (.d (.int (g i))) S1
  | _ => .no
theorem eUn {op : UnaryOp} {g : Int → Int} (h : UnR X (unaryOp op) (rU fun i => .int (g i))) (ha : PE X a (tE X.K fa)) : PE X (.UnaryOp op a pos) (tE X.K (evUn g fa)) := PEi (pe_un h ha) fun σ H Q ⟨A, S, ρ, w, env, p⟩ =>
  at_seq (P := Post X.K A H Q) w env p (fun h => h) (fun _ _ h => h) fun v S1 x H1 e1 w1 r1 p1 => by
    split at p1
    · exact ⟨_, Rp.int_inv r1, p1 _ H1 e1 w1 (.int _)⟩
    · exact p1.elim
theorem eNeg (ha : PE X a (tE X.K fa)) : PE X (.UnaryOp .USub a pos) (tE X.K (evUn (fun i => -i) fa)) := eUn un_neg ha
theorem eInv (ha : PE X a (tE X.K fa)) : PE X (.UnaryOp .Invert a pos) (tE X.K (evUn Builtin.bitNot fa)) := eUn un_inv ha

/-! ### + and * -/
def mulOk (i j : Int) : Bool := decide (((-(2 ^ 64) < i ∧ i < 2 ^ 64) ∨ (-(2 ^ 64) < j ∧ j < 2 ^ 64)) ∨ i.natAbs.log2 + j.natAbs.log2 < 1000000)
def CMulA (i j : Int) : Prop := CMul i j ∨ CMulW i j
theorem op_mulA {X : Cx} : OpR X (binaryOp .Mult) (rI CMulA fun i j => .int (i * j)) := opI fun _ _ _ _ _ _ _ hc q => mul_int q (hc.elim CMul.ok CMulW.ok)
theorem mulOk_ok {i j : Int} (h : mulOk i j = true) : CMulA i j := (of_decide_eq_true h).imp id id
def gMul : Val → Val → Sto → Res Val
  | .d (.int i), .d (.int j), S => if mulOk i j = true then .ok (.d (.int (i * j))) S else .no
  | v, .d (.int k), S => match asL S v with
    | some ds => if -(2 ^ 63) ≤ k ∧ k < 2 ^ 63 ∧ ds.length * k.toNat ≤ sizeLine then .ok (.f (.lst (List.replicate k.toNat ds).flatten)) S else .no
    | none => .no
  | _, _, _ => .no
theorem RpL.rep {L : List Addr} {xs : List V} {ds : List PyData} (r : RpL K L H xs ds) : ∀ k : Nat, RpL K L H (List.replicate k xs).flatten (List.replicate k ds).flatten
  | 0 => .nil
  | k + 1 => by
    rw [List.replicate_succ, List.replicate_succ, List.flatten_cons, List.flatten_cons]
    exact r.append (RpL.rep r k)
theorem Post.fresh {ds : List PyData} {xs : List V} {p : Addr} (h : Post K A H Q (.ok (.f (.lst ds)) S)) (w : Wf K A S H) (hp : H p = none) (r : RpL K A.V H xs ds) : Q (.ref p) (L2.upd H p (.lst xs)) := h.lst .refl w hp r
theorem oMul : ORul X (binaryOp .Mult) gMul := by
  intro pins s σ A S H x y u u' v w Q I wf rv rw ru ru' p
  unfold gMul at p
  split at p
  · split at p
    · rename_i c
      exact op_mulA pins s σ H x y u u' Q I ru ru' ⟨_, _, Rp.int_inv rv, Rp.int_inv rw, mulOk_ok c, p _ H .refl wf (.int _)⟩
    · exact p.elim
  · split at p
    · rename_i ds hds
      split at p
      · rename_i c
        obtain ⟨a, xs, e1, h1, h2⟩ := asL_ok wf rv hds
        refine op_rep pins s σ H x y u u' Q I ru ru' ⟨a, _, xs, e1, Rp.int_inv rw, h1, c.1, c.2.1, by rw [h2.length]; exact c.2.2, fun q hq => ?_⟩
        exact p.fresh wf hq (h2.rep _)
      · exact p.elim
    · exact p.elim
  · exact p.elim
def gAdd : Val → Val → Sto → Res Val
  | .d (.int i), .d (.int j), S => .ok (.d (.int (i + j))) S
  | .d (.str i), .d (.str j), S => if i.length + j.length ≤ sizeLine then .ok (.d (.str (i ++ j))) S else .no
  | .d (.tuple i), .d (.tuple j), S => if i.length + j.length ≤ sizeLine then .ok (.d (.tuple (i ++ j))) S else .no
  | v, w, S => match asL S v, asL S w with
    | some i, some j => if i.length + j.length ≤ sizeLine then .ok (.f (.lst (i ++ j))) S else .no
    | _, _ => .no
theorem oAdd : ORul X (binaryOp .Add) gAdd := by
  intro pins s σ A S H x y u u' v w Q I wf rv rw ru ru' p
  unfold gAdd at p
  split at p
  · exact op_add pins s σ H x y u u' Q I ru ru' ⟨_, _, Rp.int_inv rv, Rp.int_inv rw, p _ H .refl wf (.int _)⟩
  · split at p
    · rename_i c
      exact op_add_str pins s σ H x y u u' Q I ru ru' ⟨_, _, Rp.str_inv rv, Rp.str_inv rw, c, p _ H .refl wf (.str _)⟩
    · exact p.elim
  · split at p
    · rename_i c
      have rv' : Rp X.K A.V H x (.tuple _) := rv
      have rw' : Rp X.K A.V H y (.tuple _) := rw
      cases rv' with | tup l1 q1 => cases rw' with | tup l2 q2 =>
        refine op_catA pins s σ H _ _ u u' Q I ru ru' ⟨_, _, _, _, rfl, rfl, l1.seq, l2.seq, by rw [q1.length, q2.length]; exact c, fun e => ?_, fun e e' => ?_, fun e e' q hq => ?_⟩
        · subst e
          cases q1
          exact p _ H .refl wf rw
        · subst e'
          cases q2
          rw [List.append_nil] at p
          exact p _ H .refl wf rv
        · exact Post.tup p .refl wf hq (q1.append q2)
    · exact p.elim
  · split at p
    · rename_i i j h1 h2
      split at p
      · rename_i c
        obtain ⟨a, xs, e1, g1, r1⟩ := asL_ok wf rv h1
        obtain ⟨b, ys, e2, g2, r2⟩ := asL_ok wf rw h2
        exact op_cat pins s σ H x y u u' Q I ru ru' ⟨a, b, xs, ys, e1, e2, g1, g2, by rw [r1.length, r2.length]; exact c, fun q hq => p.fresh wf hq (r1.append r2)⟩
      · exact p.elim
    · exact p.elim

/-! ### comparisons -/
def nn : PyData → Bool
  | .none => false
  | _ => true
def gCmp (fi : Int → Int → Bool) (fd : PyData → PyData → Bool) : Val → Val → Sto → Res Val := fun v w S => match v, w with
  | .d (.int i), .d (.int j) => .ok (.d (.bool (fi i j))) S
  | v, w => match asD S v, asD S w with
    | some x, some y => if PySem.W.alike x y = true ∧ SeqAt.shaped x = true ∧ SeqAt.shaped y = true ∧ nn x = true then .ok (.d (.bool (fd x y))) S else .no
    | _, _ => .no
theorem oCmp {f : Value → Value → Sem Value} {fi : Int → Int → Bool} {fd : PyData → PyData → Bool} (hu : X.A.units + 100 < cLine) (h1 : OpR X f (rI0 fun i j => .bl (fi i j)))
    (h2 : ∀ (s : Shared) (a b : Value) (x y : PyData) (as bs : List Addr) (Q : Value → Shared → Prop), Reads s.heap a x as → Reads s.heap b y bs → PySem.W.alike x y = true → x ≠ .none → X.A.units + min x.depth y.depth < cLine → Q (.bool (fd x y)) s → wpAny (model X.prog X.w) X.A (f a b) Q X.xe s) : ORul X f (gCmp fi fd) := by
  intro pins s σ A S H x y u u' v w Q I wf rv rw ru ru' p
  unfold gCmp at p
  split at p
  · exact h1 pins s σ H x y u u' Q I ru ru' ⟨_, _, Rp.int_inv rv, Rp.int_inv rw, p _ H .refl wf (.bl _)⟩
  · split at p
    · rename_i d e hd he
      split at p
      · rename_i c
        obtain ⟨c1, c2, c3, c4⟩ := c
        have l1 := SeqAt.canLay_of_shaped c2
        have l2 := SeqAt.canLay_of_shaped c3
        obtain ⟨as, ra⟩ := Dp.reads I d x u (asD_dp wf rv hd l1) ru
        obtain ⟨bs, rb⟩ := Dp.reads I e y u' (asD_dp wf rw he l2) ru'
        have h64 := SeqAt.depth_of_shaped c2
        refine h2 s u u' d e as bs _ ra rb c1 (fun z => by rw [z] at c4; cases c4) (by omega) ⟨.bl _, H, I, rfl, p _ H .refl wf (.bl _)⟩
      · exact p.elim
    · exact p.elim
def gLt := gCmp (fun i j => decide (i < j)) PySem.W.dataLt
def gLe := gCmp (fun i j => decide (i ≤ j)) fun x y => !PySem.W.dataLt y x
def gGt := gCmp (fun i j => decide (j < i)) fun x y => PySem.W.dataLt y x
def gGe := gCmp (fun i j => decide (j ≤ i)) fun x y => !PySem.W.dataLt x y
theorem oLt (hu : X.A.units + 100 < cLine) : ORul X (compareOp .Lt) gLt := oCmp hu op_lt fun _ _ _ _ _ _ _ _ r1 r2 a n h q => PySem.W.lt_data r1 r2 a n h q
theorem oLe (hu : X.A.units + 100 < cLine) : ORul X (compareOp .LtE) gLe := oCmp hu op_le fun _ _ _ _ _ _ _ _ r1 r2 a n h q => PySem.W.le_data r1 r2 a n h q
theorem oGt (hu : X.A.units + 100 < cLine) : ORul X (compareOp .Gt) gGt := oCmp hu op_gt fun _ _ _ _ _ _ _ _ r1 r2 a n h q => PySem.W.gt_data r1 r2 a n h q
theorem oGe (hu : X.A.units + 100 < cLine) : ORul X (compareOp .GtE) gGe := oCmp hu op_ge fun _ _ _ _ _ _ _ _ r1 r2 a n h q => PySem.W.ge_data r1 r2 a n h q
def gEq : Val → Val → Sto → Res Val
  | .d (.str i), .d (.str j), S => .ok (.d (.bool (decide (i = j)))) S
  | v, w, S => match asD S v, asD S w with
    | some x, some y => if SeqAt.shaped x = true ∧ SeqAt.shaped y = true then .ok (.d (.bool (PyData.eqv x y))) S else .no
    | _, _ => .no
def gNe : Val → Val → Sto → Res Val
  | .d (.str i), .d (.str j), S => .ok (.d (.bool (!decide (i = j)))) S
  | v, w, S => match asD S v, asD S w with
    | some x, some y => if SeqAt.shaped x = true ∧ SeqAt.shaped y = true then .ok (.d (.bool (!PyData.eqv x y))) S else .no
    | _, _ => .no
theorem oEq (hu : X.A.units + 100 < cLine) : ORul X (compareOp .Eq) gEq := by
  intro pins s σ A S H x y u u' v w Q I wf rv rw ru ru' p
  unfold gEq at p
  split at p
  · rename_i i j
    have e1 := Rp.str_inv rv
    have e2 := Rp.str_inv rw
    subst e1 e2
    refine op_eq pins s σ H _ _ u u' Q I ru ru' ⟨rfl, ?_⟩
    have e : decide (V.str i = V.str j) = decide (i = j) := by simp
    rw [e]
    exact p _ H .refl wf (.bl _)
  split at p
  · rename_i d e h1 h2
    split at p
    · rename_i c
      exact op_eqD (by omega) pins s σ H x y u u' Q I ru ru' ⟨d, e, asD_dp wf rv h1 (SeqAt.canLay_of_shaped c.1), asD_dp wf rw h2 (SeqAt.canLay_of_shaped c.2), c.1, c.2, p _ H .refl wf (.bl _)⟩
    · exact p.elim
  · exact p.elim
theorem oNe (hu : X.A.units + 100 < cLine) : ORul X (compareOp .NotEq) gNe := by
  intro pins s σ A S H x y u u' v w Q I wf rv rw ru ru' p
  unfold gNe at p
  split at p
  · rename_i i j
    have e1 := Rp.str_inv rv
    have e2 := Rp.str_inv rw
    subst e1 e2
    refine op_ne pins s σ H _ _ u u' Q I ru ru' ⟨rfl, ?_⟩
    have e : decide (V.str i = V.str j) = decide (i = j) := by simp
    rw [e]
    exact p _ H .refl wf (.bl _)
  split at p
  · rename_i d e h1 h2
    split at p
    · rename_i c
      exact op_neD (by omega) pins s σ H x y u u' Q I ru ru' ⟨d, e, asD_dp wf rv h1 (SeqAt.canLay_of_shaped c.1), asD_dp wf rw h2 (SeqAt.canLay_of_shaped c.2), c.1, c.2, p _ H .refl wf (.bl _)⟩
    · exact p.elim
  · exact p.elim
def kOf : PyData → Option Key
  | .int i => some (.inl i)
  | .str x => some (.inr x)
  | _ => none
/-- a dict's entry -/
def look (ps : List (PyData × PyData)) (k : Key) : Option PyData := (ps.find? fun p => decide (kOf p.1 = some k)).map (·.2)
theorem kOf_kD (k : Key) : kOf (kD k) = some k := by cases k <;> rfl
theorem look_ok {L : List Addr} {k : Key} : ∀ {kvs : List (Key × V)} {ps : List (PyData × PyData)}, RpD K L H kvs ps → (look ps k = none ∧ valV kvs k = none) ∨ ∃ d v, look ps k = some d ∧ valV kvs k = some v ∧ Rp K L H v d
  | _, _, .nil => .inl ⟨rfl, rfl⟩
  | _, _, .cons (k := j) (v := v) (kvs := kvs) (d := d) (ps := ps) r t => by
    by_cases e : j = k
    · subst e
      exact .inr ⟨d, v, by simp [look, kOf_kD], valV_pos rfl, r⟩
    · have h1 : look ((kD j, d) :: ps) k = look ps k := by simp [look, kOf_kD, e]
      have h2 : valV ((j, v) :: kvs) k = valV kvs k := valV_neg e
      rw [h1, h2]
      exact look_ok t
/-- as a dict -/
def asM (S : Sto) : Val → Option (List (PyData × PyData))
  | .d (.dict ps) => some ps
  | .c n => match S[n]? with
    | some (.dic ps) => some ps
    | _ => none
  | _ => none
theorem asM_ok {x : V} {v : Val} {ps : List (PyData × PyData)} (w : Wf K A S H) (r : Rv K A H x v) (h : asM S v = some ps) : ∃ a kvs, x = .ref a ∧ H a = some (.dK kvs) ∧ RpD K A.V H kvs ps := by
  cases v with
  | f k => cases h
  | g cs i => cases h
  | x => cases h
  | z es => cases h
  | d y =>
    cases y with
    | dict es =>
      cases h
      have r' : Rp K A.V H x (.dict ps) := r
      cases r' with | dic l n q => exact ⟨_, _, rfl, l, q⟩
    | _ => cases h
  | c n =>
    have h : (match S[n]? with
      | some (.dic es) => some es
      | _ => none) = some ps := h
    split at h
    · rename_i es q
      cases h
      obtain ⟨a, h1, rfl⟩ := r
      obtain ⟨xs, h2, h3⟩ := w.ok n a _ h1 q
      exact ⟨a, xs, rfl, h2, h3⟩
    · cases h
def rowOf (S : Sto) : Val → Option (List PyData)
  | .d (.tuple ds) => some ds
  | v => match asD S v with
    | some (.list ds) => some ds
    | _ => none
def isIn (S : Sto) (v w : Val) : Option Bool := match asM S w with
  | some ps => match v with
    | .d y => match kOf y with
      | some k => some (look ps k).isSome
      | none => none
    | _ => none
  | none => match v, w with
    | .d (.str i), .d (.str j) => some (!(Builtin.Str.occurrences j i 0 j.length 1).isEmpty)
    | v, w => match asD S v, rowOf S w with
      | some d, some ds => if SeqAt.shaped d = true ∧ SeqAt.shaped (.list ds) = true then some (ds.any fun z => PyData.eqv z d) else none
      | _, _ => none
def gIn : Val → Val → Sto → Res Val := fun v w S => match isIn S v w with
  | some b => .ok (.d (.bool b)) S
  | none => .no
def gNotIn : Val → Val → Sto → Res Val := fun v w S => match isIn S v w with
  | some b => .ok (.d (.bool (!b))) S
  | none => .no
theorem shaped_tl {ds : List PyData} (h : SeqAt.shaped (.list ds) = true) : SeqAt.shaped (.tuple ds) = true := by
  unfold SeqAt.shaped at h ⊢
  simpa [PyData.canLay0, PyData.depth] using h
theorem Rp.key {L : List Addr} {x : V} {y : PyData} {k : Key} (r : Rp K L H x y) (h : kOf y = some k) : x = kV k := by
  cases y with
  | int i => cases h; exact Rp.int_inv r
  | str i => cases h; exact Rp.str_inv r
  | _ => cases h
theorem in_core (hu : X.A.units + 65 < cLine) {pins : List (Addr × Obj)} {s : Shared} {x y : V} {u u' : Value} {v w : Val} {c : Bool} {Q' : Value → Shared → Prop} (I : Inv X pins σ H s) (wf : Wf X.K A S H) (rv : Rv X.K A H x v) (rw : Rv X.K A H y w) (ru : RelV x u) (ru' : RelV y u') (h : isIn S v w = some c)
    (neg : Bool) (q : ∀ s', Inv X pins σ H s' → Q' (.bool (if neg then !c else c)) s') : wpAny (model X.prog X.w) X.A (compareOp (if neg then .NotIn else .In) u u') Q' X.xe s := by
  unfold isIn at h
  split at h
  · rename_i ps hps
    split at h
    · rename_i d
      split at h
      · rename_i k hk
        cases h
        obtain ⟨a, kvs, e1, g1, r1⟩ := asM_ok wf rw hps
        subst e1
        cases ru'
        have e2 := Rp.key rv hk
        subst e2
        have e3 : (valV kvs k).isSome = (look ps k).isSome := by
          rcases look_ok (k := k) r1 with ⟨h1, h2⟩ | ⟨d, v, h1, h2, _⟩ <;> rw [h1, h2] <;> rfl
        have hu1 : X.A.units + 1 < cLine := by omega
        cases neg with
        | true =>
          refine d_notIn hu1 I (DGet.k g1) ru fun s' I' => ?_
          rw [e3]; exact q s' I'
        | false =>
          refine d_in hu1 I (DGet.k g1) ru fun s' I' => ?_
          rw [e3]; exact q s' I'
      · cases h
    · cases h
  · split at h
    · cases h
      have e1 := Rp.str_inv rv
      have e2 := Rp.str_inv rw
      cases neg with
      | true => exact thn (op_notin_str pins s σ H x y u u' (fun z H' => H' = H ∧ z = .bl _) I ru ru' ⟨_, _, e1, e2, rfl, rfl⟩) fun z s' ⟨zv, H', I', rz, eh, ez⟩ => by subst eh ez; cases rz; exact q s' I'
      | false => exact thn (op_in_str pins s σ H x y u u' (fun z H' => H' = H ∧ z = .bl _) I ru ru' ⟨_, _, e1, e2, rfl, rfl⟩) fun z s' ⟨zv, H', I', rz, eh, ez⟩ => by subst eh ez; cases rz; exact q s' I'
    · split at h
      · rename_i d ds hd hds
        split at h
        · rename_i c
          cases h
          obtain ⟨as, r1⟩ := Dp.reads I d x u (asD_dp wf rv hd (SeqAt.canLay_of_shaped c.1)) ru
          have st := shaped_tl c.2
          have key : (∃ as, Reads s.heap u' (.tuple ds) as) ∨ ∃ as, Reads s.heap u' (.list ds) as := by
            unfold rowOf at hds
            split at hds
            · cases hds
              exact .inl (Dp.reads I (.tuple ds) y u' (Rp.dp _ _ (SeqAt.canLay_of_shaped st) rw) ru')
            · split at hds
              · rename_i es he
                cases hds
                exact .inr (Dp.reads I (.list ds) y u' (asD_dp wf rw he (SeqAt.canLay_of_shaped c.2)) ru')
              · cases hds
          rcases key with ⟨bs, r2⟩ | ⟨bs, r2⟩
          · cases neg with
            | true => exact SeqAt.notIn_tuple_reads r2 r1 (SeqAt.canLay_of_shaped st) (SeqAt.canLay_of_shaped c.1) (room_in_shaped c.1 hu) (q s I)
            | false => exact SeqAt.in_tuple_reads r2 r1 (SeqAt.canLay_of_shaped st) (SeqAt.canLay_of_shaped c.1) (room_in_shaped c.1 hu) (q s I)
          · cases neg with
            | true => exact SeqAt.notIn_list_reads r2 r1 (SeqAt.canLay_of_shaped c.2) (SeqAt.canLay_of_shaped c.1) (room_in_shaped c.1 hu) (q s I)
            | false => exact SeqAt.in_list_reads r2 r1 (SeqAt.canLay_of_shaped c.2) (SeqAt.canLay_of_shaped c.1) (room_in_shaped c.1 hu) (q s I)
        · cases h
      · cases h
theorem oIn (hu : X.A.units + 100 < cLine) : ORul X (compareOp .In) gIn := by
  intro pins s σ A S H x y u u' v w Q I wf rv rw ru ru' p
  unfold gIn at p
  split at p
  · rename_i b hb
    exact in_core (by omega) I wf rv rw ru ru' hb false fun s' I' => ⟨.bl b, H, I', rfl, p _ H .refl wf (.bl _)⟩
  · exact p.elim
theorem oNotIn (hu : X.A.units + 100 < cLine) : ORul X (compareOp .NotIn) gNotIn := by
  intro pins s σ A S H x y u u' v w Q I wf rv rw ru ru' p
  unfold gNotIn at p
  split at p
  · rename_i b hb
    exact in_core (by omega) I wf rv rw ru ru' hb true fun s' I' => ⟨.bl (!b), H, I', rfl, p _ H .refl wf (.bl _)⟩
  · exact p.elim
def isNone : Val → Bool
  | .d .none => true
  | _ => false
theorem isNone_ok {x : V} {v : Val} (r : Rv K A H x v) : decide (x = V.non) = isNone v := by
  cases v with
  | c n => obtain ⟨a, _, rfl⟩ := r; rfl
  | f k => exact r.elim
  | g cs i => exact r.elim
  | x => obtain ⟨a, rfl⟩ := r; rfl
  | z ds => obtain ⟨a, xs, rfl, _⟩ := r; rfl
  | d y =>
    have r' : Rp K A.V H x y := r
    cases r' <;> rfl
def gIsN : Val → Val → Sto → Res Val
  | v, .d .none, S => .ok (.d (.bool (isNone v))) S
  | _, _, _ => .no
def gNotN : Val → Val → Sto → Res Val
  | v, .d .none, S => .ok (.d (.bool (!isNone v))) S
  | _, _, _ => .no
theorem oIsN : ORul X (compareOp .Is) gIsN := by
  intro pins s σ A S H x y u u' v w Q I wf rv rw ru ru' p
  unfold gIsN at p
  split at p
  · have e : y = .non := by
      have r' : Rp X.K A.V H y .none := rw
      cases r'; rfl
    exact op_isN pins s σ H x y u u' Q I ru ru' ⟨e, by rw [isNone_ok rv]; exact p _ H .refl wf (.bl _)⟩
  · exact p.elim
theorem oNotN : ORul X (compareOp .IsNot) gNotN := by
  intro pins s σ A S H x y u u' v w Q I wf rv rw ru ru' p
  unfold gNotN at p
  split at p
  · have e : y = .non := by
      have r' : Rp X.K A.V H y .none := rw
      cases r'; rfl
    exact op_notN pins s σ H x y u u' Q I ru ru' ⟨e, by rw [isNone_ok rv]; exact p _ H .refl wf (.bl _)⟩
  · exact p.elim
end
end MV
set_option Elab.async false
set_option linter.all false
set_option maxRecDepth 100000
/-! Readings by mirrors: subscripts, slices, stores, methods, built-ins. -/
namespace MV
open PySem PySem.Spec PyProof.Rows L2
section
variable {X : Cx} {K : Frg} {a b : Expr} {fa fb : Sx} {pos : Pos} {A A' A2 : Wd} {H H' H2 : Hp} {S S' : Sto} {Q : VK} {ρ : Envi} {σ : L2.St} {D : Ends}
/-! ### x[i] -/
def gIxS (v : Val) (i : Int) (S : Sto) : Res Val := match seqOf S v with
  | some q => match atI q.2.1 i with
    | some d => .ok (.d d) S
    | none => .no
  | none => .no
def gIx : Val → Val → Sto → Res Val := fun v w S => match v, w with
  | .d (.str z), .d (.int i) => if z.length ≤ sizeLine then (match atI z.cps.toList i with
    | some c => .ok (.d (.str ⟨#[c]⟩)) S
    | none => .no) else .no
  | v, w => match asM S v with
    | some ps => match w with
      | .d y => match kOf y with
        | some k => match look ps k with
          | some d => .ok (.d d) S
          | none => .no
        | none => .no
      | _ => .no
    | none => match w with
      | .d (.int i) => gIxS v i S
      | _ => .no
theorem RpL.atI {L : List Addr} {xs : List V} {ds : List PyData} {i : Int} {d : PyData} (r : RpL K L H xs ds) (h : L2.atI ds i = some d) : ∃ v, L2.atI xs i = some v ∧ Rp K L H v d := by
  unfold L2.atI at h ⊢
  rw [r.length]
  cases q : ixN ds.length i with
  | none => rw [q] at h; cases h
  | some j =>
    rw [q] at h
    exact r.get h
theorem xIx (hu : X.A.units + 1 < cLine) : IxR X (rO X.K gIx) := by
  intro value slice pins s σ H x y u u' Q I ru ru' ⟨A, S, v, w, wf, rv, rw, p⟩ hs
  unfold gIx at p
  split at p
  · split at p
    · rename_i c
      split at p
      · rename_i z hz
        exact ix_str value slice pins s σ H x y u u' Q I ru ru' ⟨_, _, _, Rp.str_inv rv, Rp.int_inv rw, c, hz, p _ H .refl wf (.str _)⟩ hs
      · exact p.elim
    · exact p.elim
  · split at p
    · rename_i ps hps
      split at p
      · split at p
        · rename_i k hk
          split at p
          · rename_i d hd
            obtain ⟨a, kvs, e1, g1, r1⟩ := asM_ok wf rv hps
            subst e1
            cases ru
            have e2 := Rp.key rw hk
            subst e2
            rcases look_ok (k := k) r1 with ⟨h1, h2⟩ | ⟨d', z, h1, h2, h3⟩
            · rw [hd] at h1; cases h1
            · rw [hd] at h1
              cases h1
              have g : DGet H a (kV k) (some z) := by
                have g := DGet.k (k := k) g1
                rwa [h2] at g
              exact tail_any (dict_typeIs I g) slot_dict_getitem.lookup (d_getItem hu I g ru' fun w' s' I' r' => ⟨z, H, I', r', p z H .refl wf h3⟩) hs
          · exact p.elim
        · exact p.elim
      · exact p.elim
    · split at p
      · rename_i i _
        unfold gIxS at p
        split at p
        · rename_i q hq
          split at p
          · rename_i d hd
            obtain ⟨a, xs, e1, r1, sq⟩ := seq_at (t := q.1) (ds := q.2.1) (g := q.2.2) hq wf rv
            obtain ⟨z, hz, rz⟩ := r1.atI hd
            cases ht : q.1 with
            | true =>
              rw [ht] at sq
              exact ix_tup value slice pins s σ H x y u u' Q I ru ru' ⟨a, xs, _, z, e1, Rp.int_inv rw, sq, hz, p z H .refl wf rz⟩ hs
            | false =>
              rw [ht] at sq
              exact ix_list value slice pins s σ H x y u u' Q I ru ru' ⟨a, xs, _, z, e1, Rp.int_inv rw, sq, hz, p z H .refl wf rz⟩ hs
          · exact p.elim
        · exact p.elim
      · exact p.elim
theorem eIx (hu : X.A.units + 100 < cLine) (ha : PE X a (tE X.K fa)) (hb : PE X b (tE X.K fb)) (hs : PlainIx b := by exact fun _ _ => rfl) : PE X (.Subscript a b pos) (tE X.K (ev2 gIx fa fb)) := PEi (pe_ix (xIx (by omega)) ha hb hs) fun _ _ _ => ev2_ok

/-! ### x[i:j] -/
abbrev SO := Envi → Sto → Res (Option Int)
def PostO (K : Frg) (A : Wd) (H : Hp) (Q : Option Int → Hp → Prop) : Res (Option Int) → Prop
  | .ok b S => ∀ H', Ext A H A H' → Wf K A S H' → Q b H'
  | .exc _ _ => False
  | .no => False
def tOp' (K : Frg) (f : SO) : TO := fun σ H Q => At K σ H fun A ρ S => PostO K A H Q (f ρ S)
theorem PostO.seq {β : Type} {P : Res β → Prop} {Q : Option Int → Hp → Prop} {r : Res (Option Int)} {g : Option Int → Sto → Res β} (h : P (r.bind g)) (h0 : P .no → False) (h1 : ∀ e S, P (.exc e S) → False)
    (k : ∀ v S1 H1, Ext A H A H1 → Wf K A S1 H1 → P (g v S1) → Q v H1) : PostO K A H Q r := by
  cases r with
  | ok v S1 => exact fun H1 e w => k v S1 H1 e w h
  | exc e S => exact (h1 _ _ h).elim
  | no => exact (h0 h).elim
def oNo : SO := fun _ S => .ok none S
def oYes (f : Sx) : SO := fun ρ S => (f ρ S).bind fun v S1 => match v with
  | .d (.int i) => .ok (some i) S1
  | _ => .no
theorem POi {e : Option Expr} {t t' : TO} (h : PO X e t) (i : ∀ σ H Q, t' σ H Q → t σ H Q) : PO X e t' := ⟨fun pins s σ H Q I q => h.run pins s σ H Q I (i σ H Q q)⟩
theorem poN : PO X none (tOp' X.K oNo) := POi po_none fun σ H Q ⟨A, S, ρ, w, env, p⟩ => p H .refl w
theorem poS (h : PE X a (tE X.K fa)) : PO X (some a) (tOp' X.K (oYes fa)) := POi (po_some h) fun σ H Q ⟨A, S, ρ, w, env, p⟩ =>
  at_seq (P := PostO X.K A H Q) w env p (fun h => h) (fun _ _ h => h) fun v S1 x H1 e1 w1 r1 p1 => by
    split at p1
    · exact ⟨_, Rp.int_inv r1, p1 H1 e1 w1⟩
    · exact p1.elim
def cutD (ds : List PyData) (lo hi : Option Int) : List PyData := (ds.drop (HT.sIx ds.length 0 lo)).take (HT.sIx ds.length ds.length hi - HT.sIx ds.length 0 lo)
theorem RpL.cut {L : List Addr} {xs : List V} {ds : List PyData} (r : RpL K L H xs ds) (lo hi : Option Int) : RpL K L H (cutV xs lo hi) (cutD ds lo hi) := by
  unfold cutV cutD
  rw [r.length]
  exact (r.drop _).take _
def gSl (v : Val) (lo hi : Option Int) (S : Sto) : Res Val := match seqOf S v with
  | some (true, ds, _) => .ok (.d (.tuple (cutD ds lo hi))) S
  | some (false, ds, _) => .ok (.f (.lst (cutD ds lo hi))) S
  | none => .no
def rS (K : Frg) : V → Option Int → Option Int → Hp → VK → Prop := fun x lo hi H Q => ∃ A S v, Wf K A S H ∧ Rv K A H x v ∧ Post K A H Q (gSl v lo hi S)
theorem slR : SlR X (rS X.K) := by
  intro pins s σ H x u vl vu lo hi sl Q I ru hs pl pu ⟨A, S, v, wf, rv, p⟩
  unfold gSl at p
  split at p
  · rename_i ds g hq
    obtain ⟨a, xs, e1, r1, sq⟩ := seq_at hq wf rv
    refine sl_tupA pins s σ H x u vl vu lo hi sl Q I ru hs pl pu ⟨a, xs, e1, sq, fun c => ?_, fun c q hq => Post.tup p .refl wf hq (r1.cut lo hi)⟩
    have e2 : cutD ds lo hi = ds := by
      unfold cutD
      rw [r1.length] at c
      rw [c.1, c.2]
      simp
    rw [e2] at p
    cases v with
    | d y =>
      cases y <;> first | (cases hq; done) | skip
      cases hq
      rw [e1] at rv
      exact p _ H .refl wf rv
    | c n =>
      have hq : (match S[n]? with
        | some (.lst es) => some (false, es, [(n, es)])
        | _ => none) = some (true, ds, g) := hq
      split at hq <;> cases hq
    | z ds => cases hq
    | g cs i => cases hq
    | x => cases hq
    | f k => cases hq
  · rename_i ds g hq
    obtain ⟨a, xs, e1, r1, sq⟩ := seq_at hq wf rv
    exact sl_list pins s σ H x u vl vu lo hi sl Q I ru hs pl pu ⟨a, xs, e1, sq, fun q hq => Post.fresh p wf hq (r1.cut lo hi)⟩
  · exact p.elim
def evSl (f : Sx) (lo hi : SO) : Sx := fun ρ S => (f ρ S).bind fun v S1 => (lo ρ S1).bind fun l S2 => (hi ρ S2).bind fun h S3 => gSl v.th l h S3
theorem eSl {lo hi : Option Expr} {l h : SO} {p2 : Pos} (ha : PE X a (tE X.K fa)) (hl : PO X lo (tOp' X.K l)) (hh : PO X hi (tOp' X.K h)) : PE X (.Subscript a (.Slice lo hi none p2) pos) (tE X.K (evSl fa l h)) := PEi (pe_slice slR ha hl hh) fun σ H Q ⟨A, S, ρ, w, env, p⟩ =>
  at_seq (P := Post X.K A H Q) w env p (fun h => h) (fun _ _ h => h) fun v S1 x H1 e1 w1 r1 p1 => ⟨A, S1, ρ, w1, env.mono e1, PostO.seq (P := Post X.K A H Q) p1 (fun h => h) (fun _ _ h => h) fun lo S2 H2 e2 w2 p2 =>
    ⟨A, S2, ρ, w2, (env.mono e1).mono e2, PostO.seq (P := Post X.K A H Q) p2 (fun h => h) (fun _ _ h => h) fun hi S3 H3 e3 w3 p3 => ⟨A, S3, v.th, w3, (r1.mono e2).mono e3, p3.shift ((e1.trans e2).trans e3) w3⟩⟩⟩

/-! ### x[i] = v -/
def putD (ps : List (PyData × PyData)) (k : Key) (y : PyData) : List (PyData × PyData) :=
  if (look ps k).isSome then ps.map fun p => if kOf p.1 = some k then (p.1, y) else p else ps ++ [(kD k, y)]
theorem RpD.append {L : List Addr} : ∀ {kvs lvs : List (Key × V)} {ps qs : List (PyData × PyData)}, RpD K L H kvs ps → RpD K L H lvs qs → RpD K L H (kvs ++ lvs) (ps ++ qs)
  | _, _, _, _, .nil, t => t
  | _, _, _, _, .cons r s, t => .cons r (RpD.append s t)
theorem RpD.length {L : List Addr} : ∀ {kvs : List (Key × V)} {ps : List (PyData × PyData)}, RpD K L H kvs ps → kvs.length = ps.length
  | _, _, .nil => rfl
  | _, _, .cons _ t => by rw [List.length_cons, List.length_cons, RpD.length t]
theorem RpD.repl {L : List Addr} {k : Key} {v : V} {y : PyData} (ry : Rp K L H v y) : ∀ {kvs : List (Key × V)} {ps : List (PyData × PyData)}, RpD K L H kvs ps →
    RpD K L H (kvs.map fun kv => if kv.1 = k then (kv.1, v) else kv) (ps.map fun p => if kOf p.1 = some k then (p.1, y) else p)
  | _, _, .nil => .nil
  | _, _, .cons (k := j) (v := u) (kvs := kvs) (d := d) (ps := ps) r t => by
    rw [List.map_cons, List.map_cons]
    by_cases e : j = k
    · have h1 : kOf (kD j, d).1 = some k := by rw [← e]; exact kOf_kD j
      rw [if_pos h1, if_pos (show (j, u).1 = k from e)]
      exact .cons ry (RpD.repl ry t)
    · have h1 : ¬ kOf (kD j, d).1 = some k := fun z => e (Option.some.inj ((kOf_kD j).symm.trans z))
      rw [if_neg h1, if_neg (show ¬ (j, u).1 = k from e)]
      exact .cons r (RpD.repl ry t)
theorem RpD.put {L : List Addr} {k : Key} {v : V} {y : PyData} (ry : Rp K L H v y) {kvs : List (Key × V)} {ps : List (PyData × PyData)} (r : RpD K L H kvs ps) : RpD K L H (putK kvs k v) (putD ps k y) := by
  unfold putK putD
  rw [valV_any]
  rcases look_ok (k := k) r with ⟨h1, h2⟩ | ⟨d, u, h1, h2, _⟩
  · rw [h1, h2]
    exact r.append (.cons ry .nil)
  · rw [h1, h2]
    exact r.repl ry
def gPut (v i x : Val) (S : Sto) : Option Sto := match v, x with
  | .c n, .d y => match S[n]? with
    | some (.lst ds) => match i with
      | .d (.int k) => match ixN ds.length k with
        | some j => some (S.set n (.lst (ds.set j y)))
        | none => none
      | _ => none
    | some (.dic ps) => match i with
      | .d z => match kOf z with
        | some k => if ps.length < sizeLine then some (S.set n (.dic (putD ps k y))) else none
        | none => none
      | _ => none
    | _ => none
  | _, _ => none
def rP (K : Frg) : V → V → V → Hp → (Hp → Prop) → Prop := fun o i x H Q => ∃ A S v w y S', Wf K A S H ∧ Rv K A H o v ∧ Rv K A H i w ∧ Rv K A H x y ∧ gPut v w y S = some S' ∧ ∀ H', Ext A H A H' → Wf K A S' H' → Q H'
theorem set_any (hu : X.A.units + 1 < cLine) : PSet X (rP X.K) := by
  intro pins s σ H o i x ov iv xv Q I ro ri rx ⟨A, S, v, w, y, S', wf, rv, rw, ry, hp, q⟩
  unfold gPut at hp
  split at hp
  · rename_i n y'
    obtain ⟨a, ha, e1⟩ := rv
    subst e1
    have ma : a ∈ A.A := List.mem_of_getElem? ha
    split at hp
    · rename_i ds hds
      obtain ⟨xs, h2, h3⟩ := wf.ok n a _ ha hds
      split at hp
      · rename_i k
        split at hp
        · rename_i j hj
          cases hp
          refine set_list pins s σ H _ i x ov iv xv Q I ro ri rx ⟨a, xs, k, j, rfl, Rp.int_inv rw, h2, by rw [h3.length]; exact hj, q _ (.upd ma) (wf.upd ha ⟨_, upd_same, (h3.set ry j).mono (kp_upd ma)⟩)⟩
        · cases hp
      · cases hp
    · rename_i ps hps
      obtain ⟨kvs, h2, h3⟩ := wf.ok n a _ ha hps
      split at hp
      · rename_i z
        split at hp
        · rename_i k hk
          split at hp
          · rename_i hl
            cases hp
            have e2 := Rp.key rw hk
            subst e2
            cases ro
            have hl' : kvs.length < sizeLine := by rw [h3.length]; exact hl
            exact d_setItem hu I (DPut.k (v := x) h2 hl') ri rx fun s' I' => ⟨_, I', q _ (.upd ma) (wf.upd ha ⟨_, upd_same, (h3.put ry).mono (kp_upd ma)⟩)⟩
          · cases hp
        · cases hp
      · cases hp
    · cases hp
  · cases hp
def sPut (fo fi fe : Sx) : Ss := fun ρ S => (fe ρ S).bind fun x S1 => (fo ρ S1).bind fun v S2 => (fi ρ S2).bind fun i S3 => match gPut v.th i.th x.th S3 with
  | some S4 => .ok (.nx ρ) S4
  | none => .no
theorem sPutR {o i : Expr} {fo fi : Sx} {p2 : Pos} (hu : X.A.units + 100 < cLine) (ho : PE X o (tE X.K fo)) (hi : PE X i (tE X.K fi)) (he : PE X a (tE X.K fa))
    (hx : ∀ v, assign (.Subscript o i p2) X.env v = (do
      let ov ← holding [v] (eval o X.env)
      let iv ← holding [v, ov] (eval i X.env)
      standAt p2
      holding [v, ov, iv] (setItem ov iv v)
      release [v, ov, iv] []) := by intro _; rfl)
    (hs : swapsWithSole [.Subscript o i p2] a pos.line X.env = pure false := by rfl) (hw : swappedStores [.Subscript o i p2] a X.env = pure none := by rfl)
    (h1 : (assignEach [.Subscript o i p2] X.env).map (·.2) = [assign (.Subscript o i p2) X.env] := by rfl) : PS X (.Assign [.Subscript o i p2] a pos) (tS X.K (sPut fo fi fa)) :=
  PSi (ps_asg he (pg_sub ho hi (set_any (by omega)) hx) hs hw h1) fun D σ H ⟨A, S, ρ, w, env, p⟩ =>
  at_seq (P := PostS X.K A H D) w env p (fun h => h) (fun _ _ h => h) fun x S1 xv H1 e1 w1 r1 p1 =>
    at_seq (P := PostS X.K A H D) w1 (env.mono e1) p1 (fun h => h) (fun _ _ h => h) fun v S2 ov H2 e2 w2 r2 p2 =>
      at_seq (P := PostS X.K A H D) w2 ((env.mono e1).mono e2) p2 (fun h => h) (fun _ _ h => h) fun i S3 iv H3 e3 w3 r3 p3 => by
        split at p3
        · rename_i S4 h4
          refine ⟨A, S3, v.th, i.th, x.th, S4, w3, r2.mono e3, r3, r1.mono (e2.trans e3), h4, fun H4 e4 w4 => ?_⟩
          have e := ((e1.trans e2).trans e3).trans e4
          exact p3 A σ H4 e w4 (env.mono e)
        · exact p3.elim

/-! ### x += e -/
def sAug (i : Nat) (g : Val → Val → Sto → Res Val) (f : Sx) : Ss := fun ρ S => match ρ[i]? with
  | some (some v) => (f ρ S).bind fun w S1 => (g v w.th S1).bind fun z S2 => .ok (.nx (ρ.set i (some z.th))) S2
  | _ => .no
theorem sAugR (i : Nat) {x : Str} {op : Operator} {g : Val → Val → Sto → Res Val} {pos' : Pos} (hN : X.N.Nodup) (hi : X.N[i]? = some x) (hx : Loc X.env.scope x) (h : ORul X (inplaceOp op) g) (he : PE X a (tE X.K fa))
    (hf : X.fn x = true ∨ X.env.scope.names.lookup x = some .local := by first | exact .inl rfl | exact .inr rfl | assumption) : PS X (.AugAssign (.Name x pos') op a pos) (tS X.K (sAug i g fa)) :=
  PSi (ps_aug (i := i) hN hi hx he (ti := rO X.K g) (fun pins s σ H x y v u Q I rv ru hq => h.op pins s σ H x y v u Q I rv ru hq) hf) fun D σ H ⟨A, S, ρ, w, env, p⟩ => by
    dsimp only [sAug] at p
    split at p
    · rename_i v hv
      obtain ⟨y, h1, h2⟩ := env.get i v hv
      refine ⟨y, h1, at_seq (P := PostS X.K A H D) w env p (fun h => h) (fun _ _ h => h) fun u S1 z H1 e1 w1 r1 p1 => ?_⟩
      refine ⟨A, S1, v, u.th, w1, h2.mono e1, r1, Post.seq (P := PostS X.K A H D) p1 (fun h => h) (fun _ _ h => h) fun t S2 tv H2 e2 w2 r2 p2 => ?_⟩
      have e := e1.trans e2
      exact p2 A _ H2 e w2 ((env.mono e).set r2)
    · exact p.elim
theorem oAugAdd : ORul X (inplaceOp .Add) (gInt (fun _ _ => true) fun i j => .int (i + j)) := oInt0 iop_add fun _ _ _ _ => .int _
theorem oAugSub : ORul X (inplaceOp .Sub) gSub := oInt0 iop_sub fun _ _ _ _ => .int _
end
end MV
set_option Elab.async false
set_option linter.all false
set_option maxRecDepth 100000
set_option maxHeartbeats 1000000
/-! Readings by mirrors: methods, built-ins. -/
namespace MV
open PySem PySem.Spec PyProof.Rows L2
section
variable {X : Cx} {K : Frg} {a b : Expr} {fa fb : Sx} {pos : Pos} {A A' A2 : Wd} {H H' H2 : Hp} {S S' : Sto} {Q : VK} {ρ : Envi} {σ : L2.St} {D : Ends}
/-! ### methods -/
def MRul (X : Cx) (id : String) (g : Val → List Val → Sto → Res Val) : Prop :=
  ∀ (pins : List (Addr × Obj)) (s : Shared) (σ : L2.St) (A : Wd) (S : Sto) (H : Hp) (x : V) (xs : List V) (u : Value) (us : List Value) (v : Val) (vs : List Val) (Q : VK), Inv X pins σ H s → Wf X.K A S H → Rv X.K A H x v → RvL X.K A H xs vs → RelV x u → Vals xs us →
    Post X.K A H Q (g v vs S) → wpAny (model X.prog X.w) X.A (call (.builtin id) (u :: us)) (EP X pins σ Q) X.xe s
def rM (K : Frg) (g : Val → List Val → Sto → Res Val) : V → List V → Hp → VK → Prop := fun x xs H Q => ∃ A S v vs, Wf K A S H ∧ Rv K A H x v ∧ RvL K A H xs vs ∧ Post K A H Q (g v vs S)
theorem MRul.mt {id : String} {g : Val → List Val → Sto → Res Val} (h : MRul X id g) : MtR X id (rM X.K g) := fun pins s σ H x xs u us Q I ru rus ⟨A, S, v, vs, w, r1, r2, p⟩ => h pins s σ A S H x xs u us v vs Q I w r1 r2 ru rus p
/-- what kind of thing a method is asked of -/
def tyB (T : String) (S : Sto) (v : Val) : Bool :=
  (T == "list" && (asL S v).isSome) || (T == "dict" && (asM S v).isSome) || (T == "str" && (match v with | .d (.str _) => true | _ => false))
theorem tyB_ok {T : String} {x : V} {v : Val} (w : Wf K A S H) (r : Rv K A H x v) (h : tyB T S v = true) : tyV K T x H := by
  unfold tyB at h
  rw [Bool.or_eq_true, Bool.or_eq_true, Bool.and_eq_true, Bool.and_eq_true, Bool.and_eq_true] at h
  rcases h with (⟨h1, h2⟩ | ⟨h1, h2⟩) | ⟨h1, h2⟩
  · obtain ⟨ds, hd⟩ := Option.isSome_iff_exists.mp h2
    obtain ⟨a, xs, rfl, g, _⟩ := asL_ok w r hd
    exact .inl ⟨eq_of_beq h1, xs, SqL.of g⟩
  · obtain ⟨ds, hd⟩ := Option.isSome_iff_exists.mp h2
    obtain ⟨a, xs, rfl, g, _⟩ := asM_ok w r hd
    exact .inr (.inr (.inl ⟨eq_of_beq h1, .inl ⟨xs, g⟩⟩))
  · split at h2
    · rw [Rp.str_inv r]; exact eq_of_beq h1
    · cases h2
def evMt (T : String) (g : Val → List Val → Sto → Res Val) (fo : Sx) (f : SA) : Sx := fun ρ S => (fo ρ S).bind fun v S1 => if tyB T S1 v.th = true then (f ρ S1).bind fun vs S2 => g v.th vs S2 else .no
section
variable {o e : Expr} {es : List Expr} {fo : Sx} {f : SA} {name : Str} {apos cpos : Pos} {T id : String} {g : Val → List Val → Sto → Res Val}
theorem eM (pa : PlainAttrs T) (slot : Slot T name id) (hty : typeOf (.builtin id) = pure (.type "method_descriptor")) (hm : MRul X id g) (ho : PE X o (tE X.K fo)) (ha : PA X (e :: es) (tAr X.K f))
    (hbase : attributeBase o name X.env (eval o X.env) = eval o X.env := by rfl)
    (hfew : ((backTo cpos (starEach (e :: es) X.env)).all (fun x => !x.1) && (backToKw cpos (keywordEach [] X.env)).all (fun x => x.1.isSome)
      && decide ((e :: es).length + ([] : List Keyword).length + (if ([] : List Keyword).isEmpty then 0 else 1) < 30)) = true := by rfl)
    (hline : (apos.endLine == cpos.line) = true := by rfl) (hs : starEach (e :: es) X.env = (false, eval e X.env) :: starEach es X.env := by rfl) (hplain : (backTo cpos (starEach es X.env)).any (·.1) = false := by rfl) :
    PE X (.Call (.Attribute o name apos) (e :: es) [] cpos) (tE X.K (evMt T g fo f)) := PEi (pe_bm pa slot hty hm.mt ho ha hbase hfew hline hs hplain) fun σ H Q ⟨A, S, ρ, w, env, p⟩ =>
  at_seq (P := Post X.K A H Q) w env p (fun h => h) (fun _ _ h => h) fun v S1 x H1 e1 w1 r1 p1 => by
    split at p1
    · rename_i c
      exact ⟨tyB_ok w1 r1 c, A, S1, ρ, w1, env.mono e1, PostA.seq (P := Post X.K A H Q) p1 (fun h => h) (fun _ _ h => h) fun vs S2 xs H2 e2 w2 r2 p2 => ⟨A, S2, v.th, vs, w2, r1.mono e2, r2, p2.shift (e1.trans e2) w2⟩⟩
    · exact p1.elim
theorem eM0 (pa : PlainAttrs T) (slot : Slot T name id) (hty : typeOf (.builtin id) = pure (.type "method_descriptor")) (hm : MRul X id g) (ho : PE X o (tE X.K fo))
    (hbase : attributeBase o name X.env (eval o X.env) = eval o X.env := by rfl) (hline : (apos.endLine == cpos.line) = true := by rfl) : PE X (.Call (.Attribute o name apos) [] [] cpos) (tE X.K (evMt T g fo aNil)) :=
  PEi (pe_bm0 pa slot hty hm.mt ho hbase hline) fun σ H Q ⟨A, S, ρ, w, env, p⟩ =>
  at_seq (P := Post X.K A H Q) w env p (fun h => h) (fun _ _ h => h) fun v S1 x H1 e1 w1 r1 p1 => by
    split at p1
    · rename_i c
      exact ⟨tyB_ok w1 r1 c, A, S1, v.th, [], w1, r1, .nil, p1.shift e1 w1⟩
    · exact p1.elim
end
/-- the list cell that v is -/
def cellL (S : Sto) : Val → Option (Nat × List PyData)
  | .c n => match S[n]? with
    | some (.lst ds) => some (n, ds)
    | _ => none
  | _ => none
theorem cellL_ok {x : V} {v : Val} {n : Nat} {ds : List PyData} (w : Wf K A S H) (r : Rv K A H x v) (h : cellL S v = some (n, ds)) : ∃ a xs, A.A[n]? = some a ∧ a ∈ A.A ∧ x = .ref a ∧ H a = some (.lst xs) ∧ RpL K A.V H xs ds := by
  cases v with
  | c m =>
    have h : (match S[m]? with
      | some (.lst es) => some (m, es)
      | _ => none) = some (n, ds) := h
    split at h
    · rename_i es q
      cases h
      obtain ⟨a, h1, rfl⟩ := r
      obtain ⟨xs, h2, h3⟩ := w.ok n a _ h1 q
      exact ⟨a, xs, h1, List.mem_of_getElem? h1, rfl, h2, h3⟩
    · cases h
  | _ => cases h
theorem Post.put {n : Nat} {a : Addr} {ds : List PyData} {xs : List V} {y : V} {d : PyData} (p : Post K A H Q (.ok (.d d) (S.set n (.lst ds)))) (w : Wf K A S H) (ha : A.A[n]? = some a) (r : RpL K A.V H xs ds) (ry : Rp K A.V H y d) : Q y (L2.upd H a (.lst xs)) := by
  have ma : a ∈ A.A := List.mem_of_getElem? ha
  exact p y _ (.upd ma) (w.upd ha ⟨xs, upd_same, r.mono (kp_upd ma)⟩) (ry.mono (kp_upd ma))
def gAppend (v : Val) (vs : List Val) (S : Sto) : Res Val := match cellL S v, vs with
  | some (n, ds), [.d y] => if ds.length < sizeLine then .ok (.d .none) (S.set n (.lst (ds ++ [y]))) else .no
  | _, _ => .no
theorem mAppend : MRul X "list.append" gAppend := by
  intro pins s σ A S H x xs u us v vs Q I wf rv rvs ru rus p
  unfold gAppend at p
  split at p
  · rename_i n ds y h1
    split at p
    · rename_i hl
      obtain ⟨a, ys, ha, ma, rfl, h2, h3⟩ := cellL_ok wf rv h1
      cases rvs with | cons r1 r2 => cases r2; exact mt_append pins s σ H _ _ u us Q I ru rus ⟨a, ys, _, rfl, rfl, h2, by rw [h3.length]; exact hl, p.put wf ha (h3.append (.cons r1 .nil)) .non⟩
    · exact p.elim
  · exact p.elim
def gExtend (v : Val) (vs : List Val) (S : Sto) : Res Val := match cellL S v, vs with
  | some (n, ds), [w] => match asL S w with
    | some es => if ds.length + es.length ≤ sizeLine then .ok (.d .none) (S.set n (.lst (ds ++ es))) else .no
    | none => .no
  | _, _ => .no
theorem mExtend : MRul X "list.extend" gExtend := by
  intro pins s σ A S H x xs u us v vs Q I wf rv rvs ru rus p
  unfold gExtend at p
  split at p
  · rename_i n ds y h1
    split at p
    · rename_i es h4
      split at p
      · rename_i hl
        obtain ⟨a, ys, ha, ma, rfl, h2, h3⟩ := cellL_ok wf rv h1
        cases rvs with | cons r1 r2 =>
          cases r2
          obtain ⟨b, zs, rfl, h5, h6⟩ := asL_ok wf r1 h4
          exact mt_extend pins s σ H _ _ u us Q I ru rus ⟨a, b, ys, zs, rfl, rfl, h2, h5, by rw [h3.length, h6.length]; exact hl, p.put wf ha (h3.append h6) .non⟩
      · exact p.elim
    · exact p.elim
  · exact p.elim
def gPop (v : Val) (vs : List Val) (S : Sto) : Res Val := match cellL S v, vs with
  | some (n, ds), [] => match ds[ds.length - 1]? with
    | some y => .ok (.d y) (S.set n (.lst ds.dropLast))
    | none => .no
  | some (n, ds), [.d (.int i)] => if -(2 ^ 63) ≤ i ∧ i < 2 ^ 63 then match seqIndex? i ds.length with
    | some k => match ds[k]? with
      | some y => .ok (.d y) (S.set n (.lst (ds.eraseIdx k)))
      | none => .no
    | none => .no else .no
  | _, _ => .no
theorem mPop : MRul X "list.pop" gPop := by
  intro pins s σ A S H x xs u us v vs Q I wf rv rvs ru rus p
  unfold gPop at p
  split at p
  · rename_i n ds h1
    split at p
    · rename_i y hy
      obtain ⟨a, ys, ha, ma, rfl, h2, h3⟩ := cellL_ok wf rv h1
      cases rvs
      obtain ⟨z, hz, rz⟩ := h3.get hy
      exact mt_pop pins s σ H _ _ u us Q I ru rus ⟨a, ys, z, rfl, rfl, h2, by rw [h3.length]; exact hz, p.put wf ha h3.dropLast rz⟩
    · exact p.elim
  · rename_i n ds i h1
    split at p
    · rename_i hi
      split at p
      · rename_i k hk
        split at p
        · rename_i y hy
          obtain ⟨a, ys, ha, ma, rfl, h2, h3⟩ := cellL_ok wf rv h1
          cases rvs with | cons r1 r2 =>
            cases r2
            obtain ⟨z, hz, rz⟩ := h3.get hy
            have e1 := Rp.int_inv r1
            subst e1
            exact mt_popAt pins s σ H _ _ u us Q I ru rus ⟨a, ys, i, k, z, rfl, rfl, h2, hi.1, hi.2, by rw [h3.length]; exact hk, hz, p.put wf ha (h3.eraseIdx k) rz⟩
        · exact p.elim
      · exact p.elim
    · exact p.elim
  · exact p.elim
def gInsert (v : Val) (vs : List Val) (S : Sto) : Res Val := match cellL S v, vs with
  | some (n, ds), [.d (.int i), .d y] => if ds.length < sizeLine ∧ 0 ≤ i ∧ i < 2 ^ 63 then .ok (.d .none) (S.set n (.lst (ds.take i.toNat ++ [y] ++ ds.drop i.toNat))) else .no
  | _, _ => .no
theorem mInsert : MRul X "list.insert" gInsert := by
  intro pins s σ A S H x xs u us v vs Q I wf rv rvs ru rus p
  unfold gInsert at p
  split at p
  · rename_i n ds i y h1
    split at p
    · rename_i hl
      obtain ⟨a, ys, ha, ma, rfl, h2, h3⟩ := cellL_ok wf rv h1
      cases rvs with | cons r0 r1 => cases r1 with | cons r1 r2 =>
        cases r2
        have e1 := Rp.int_inv r0
        subst e1
        exact mt_insert pins s σ H _ _ u us Q I ru rus ⟨a, ys, i, _, rfl, rfl, h2, by rw [h3.length]; exact hl.1, hl.2.1, hl.2.2, p.put wf ha (((h3.take _).append (.cons r1 .nil)).append (h3.drop _)) .non⟩
    · exact p.elim
  · exact p.elim

/-! ### built-ins -/
def intsOf : List PyData → Option (List Int)
  | [] => some []
  | .int i :: r => (intsOf r).map (i :: ·)
  | _ :: _ => none
theorem intsOf_ok : ∀ {ds : List PyData} {ns : List Int}, intsOf ds = some ns → ds = ns.map .int
  | [], _, h => by cases h; rfl
  | .int i :: r, ns, h => by
    unfold intsOf at h
    cases q : intsOf r with
    | none => rw [q] at h; cases h
    | some es => rw [q] at h; cases h; rw [intsOf_ok q]; rfl
theorem intsOf_map : ∀ ns : List Int, intsOf (ns.map .int) = some ns
  | [] => rfl
  | n :: ns => by
    show (intsOf (ns.map .int)).map (n :: ·) = _
    rw [intsOf_map ns]; rfl
def bolsOf : List PyData → Option (List Bool)
  | [] => some []
  | .bool i :: r => (bolsOf r).map (i :: ·)
  | _ :: _ => none
theorem bolsOf_ok : ∀ {ds : List PyData} {ns : List Bool}, bolsOf ds = some ns → ds = ns.map .bool
  | [], _, h => by cases h; rfl
  | .bool i :: r, ns, h => by
    unfold bolsOf at h
    cases q : bolsOf r with
    | none => rw [q] at h; cases h
    | some es => rw [q] at h; cases h; rw [bolsOf_ok q]; rfl
theorem bolsOf_map : ∀ ns : List Bool, bolsOf (ns.map .bool) = some ns
  | [] => rfl
  | n :: ns => by
    show (bolsOf (ns.map .bool)).map (n :: ·) = _
    rw [bolsOf_map ns]; rfl
/-- a list that may be read -/
def asR (S : Sto) (v : Val) : Option (List PyData) := match seqOf S v with
  | some (false, ds, _) => some ds
  | _ => none
theorem asR_ok {x : V} {v : Val} {ds : List PyData} (w : Wf K A S H) (r : Rv K A H x v) (h : asR S v = some ds) : ∃ a xs, x = .ref a ∧ SqL K H a xs ∧ RpL K A.V H xs ds := by
  unfold asR at h
  split at h
  · rename_i es g hq
    cases h
    obtain ⟨a, xs, e, r1, sq⟩ := seq_at hq w r
    exact ⟨a, xs, e, sq, r1⟩
  · cases h
def g1 (f : Sto → Val → Option PyData) : List Val → Sto → Res Val
  | [v], S => match f S v with
    | some d => .ok (.d d) S
    | none => .no
  | _, _ => .no
def fLen (S : Sto) (v : Val) : Option PyData := match v with
  | .d (.str z) => if z.length ≤ sizeLine then some (.int z.length) else none
  | v => match asM S v with
    | some ps => some (.int ps.length)
    | none => match seqOf S v with
      | some q => some (.int q.2.1.length)
      | none => none
theorem bLen : BRul X (.builtin "len") (g1 fLen) := by
  intro pins s σ A S H xs us vs Q I wf rvs rus p
  unfold g1 at p
  split at p
  · rename_i v _
    cases rvs with | cons r1 r2 =>
      cases r2
      split at p
      · rename_i d hd
        unfold fLen at hd
        split at hd
        · split at hd
          · rename_i hl
            cases hd
            exact call_len_str pins s σ H _ us Q I rus ⟨_, by rw [Rp.str_inv r1], hl, p _ H .refl wf (.int _)⟩
          · cases hd
        · split at hd
          · rename_i ps hps
            cases hd
            obtain ⟨a, kvs, rfl, h1, h2⟩ := asM_ok wf r1 hps
            obtain ⟨u, rfl, ru⟩ := vals1 rus
            cases ru
            exact d_len I (.inl h1) fun t s' I' => ⟨.int kvs.length, H, I', ⟨t, rfl⟩, by rw [h2.length]; exact p _ H .refl wf (.int _)⟩
          · split at hd
            · rename_i q hq
              cases hd
              obtain ⟨a, ys, rfl, h1, h2⟩ := seq_at (t := q.1) (ds := q.2.1) (g := q.2.2) hq wf r1
              refine call_len_seq pins s σ H _ us Q I rus ⟨a, ys, rfl, ?_, by rw [h1.length]; exact p _ H .refl wf (.int _)⟩
              cases ht : q.1 with
              | true => rw [ht] at h2; exact .inr h2
              | false => rw [ht] at h2; exact .inl h2
            · cases hd
      · exact p.elim
  · exact p.elim
def fAbs (_ : Sto) : Val → Option PyData
  | .d (.int i) => some (.int (if i < 0 then -i else i))
  | _ => none
theorem b1i {f : Value} {r : List V → Hp → VK → Prop} {F : Sto → Val → Option PyData} (hc : CallR X f r) (h : ∀ A S H x v d Q, Wf X.K A S H → Rv X.K A H x v → F S v = some d → (∀ y H', Ext A H A H' → Wf X.K A S H' → Rp X.K A.V H' y d → Q y H') → r [x] H Q) : BRul X f (g1 F) := by
  intro pins s σ A S H xs us vs Q I wf rvs rus p
  unfold g1 at p
  split at p
  · cases rvs with | cons r1 r2 =>
      cases r2
      split at p
      · rename_i d hd
        exact hc pins s σ H _ us Q I rus (h A S H _ _ d Q wf r1 hd p)
      · exact p.elim
  · exact p.elim
theorem bAbs : BRul X (.builtin "abs") (g1 fAbs) := b1i call_abs fun A S H x v d Q wf r h p => by
  unfold fAbs at h
  split at h
  · cases h; exact ⟨_, by rw [Rp.int_inv r], p _ H .refl wf (.int _)⟩
  · cases h
def fInt (_ : Sto) : Val → Option PyData
  | .d (.int i) => some (.int i)
  | .d (.bool b) => some (.int (if b then 1 else 0))
  | _ => none
theorem bInt : BRul X (.type "int") (g1 fInt) := b1i call_int1 fun A S H x v d Q wf r h p => by
  unfold fInt at h
  split at h
  · cases h; exact .inl ⟨_, by rw [Rp.int_inv r], p _ H .refl wf (.int _)⟩
  · cases h; exact .inr ⟨_, by rw [Rp.bl_inv r], p _ H .refl wf (.int _)⟩
  · cases h
def fTuple (S : Sto) (v : Val) : Option PyData := match seqOf S v with
  | some q => some (.tuple q.2.1)
  | none => none
theorem bTuple : BRul X (.type "tuple") (g1 fTuple) := b1i call_tuple_of fun A S H x v d Q wf r h p => by
  unfold fTuple at h
  split at h
  · rename_i q hq
    cases h
    obtain ⟨a, ys, rfl, h1, h2⟩ := seq_at (t := q.1) (ds := q.2.1) (g := q.2.2) hq wf r
    refine ⟨a, ys, rfl, ?_⟩
    cases ht : q.1 with
    | true =>
      rw [ht] at h2
      refine .inr ⟨h2, ?_⟩
      obtain ⟨t, ds, g⟩ := q
      dsimp only at ht
      subst ht
      cases v with
      | d y =>
        cases y <;> first | (cases hq; done) | skip
        cases hq
        exact p _ H .refl wf r
      | c n =>
        have hq : (match S[n]? with
          | some (.lst es) => some (false, es, [(n, es)])
          | _ => none) = some (true, ds, g) := hq
        split at hq <;> cases hq
      | z ds => cases hq
      | g cs i => cases hq
      | x => cases hq
      | f k => cases hq
    | false =>
      rw [ht] at h2
      exact .inl ⟨h2, fun l hl => p _ _ (.laid hl) (wf.laid hl) (.tup (.inl ⟨.inl upd_same, wf.off hl⟩) (h1.mono (Ext.laid hl).kp))⟩
  · cases h
def gList : List Val → Sto → Res Val
  | [v], S => match seqOf S v with
    | some q => .ok (.f (.lst q.2.1)) S
    | none => .no
  | _, _ => .no
theorem bList : BRul X (.type "list") gList := by
  intro pins s σ A S H xs us vs Q I wf rvs rus p
  unfold gList at p
  split at p
  · cases rvs with | cons r1 r2 =>
      cases r2
      split at p
      · rename_i q hq
        obtain ⟨a, ys, rfl, h1, h2⟩ := seq_at (t := q.1) (ds := q.2.1) (g := q.2.2) hq wf r1
        refine call_list_of pins s σ H _ us Q I rus ⟨a, ys, rfl, ?_, fun l hl => p.fresh wf hl h1⟩
        cases ht : q.1 with
        | true => rw [ht] at h2; exact .inr h2
        | false => rw [ht] at h2; exact .inl h2
      · exact p.elim
  · exact p.elim
def fSum (S : Sto) (v : Val) : Option PyData := match asR S v with
  | some ds => (intsOf ds).map fun ns => .int ns.sum
  | none => none
theorem bSum (hc : X.calm = true) : BRul X (.builtin "sum") (g1 fSum) := b1i (cr_sum hc) fun A S H x v d Q wf r h p => by
  unfold fSum at h
  split at h
  · rename_i ds hds
    obtain ⟨ns, hn, e⟩ := Option.map_eq_some_iff.mp h
    subst e
    obtain ⟨a, xs, rfl, h1, h2⟩ := asR_ok wf r hds
    rw [intsOf_ok hn] at h2
    have e := h2.ints
    subst e
    exact ⟨a, ns, rfl, h1, p _ H .refl wf (.int _)⟩
  · cases h
def fAll (S : Sto) (v : Val) : Option PyData := match asR S v with
  | some ds => (bolsOf ds).map fun ns => .bool (ns.all id)
  | none => none
theorem bAll (hc : X.calm = true) : BRul X (.builtin "all") (g1 fAll) := b1i (cr_all hc) fun A S H x v d Q wf r h p => by
  unfold fAll at h
  split at h
  · rename_i ds hds
    obtain ⟨ns, hn, e⟩ := Option.map_eq_some_iff.mp h
    subst e
    obtain ⟨a, xs, rfl, h1, h2⟩ := asR_ok wf r hds
    rw [bolsOf_ok hn] at h2
    have e := h2.bls
    subst e
    exact ⟨a, ns, rfl, h1, p _ H .refl wf (.bl _)⟩
  · cases h
def fAny (S : Sto) (v : Val) : Option PyData := match asR S v with
  | some ds => (bolsOf ds).map fun ns => .bool (ns.any id)
  | none => none
theorem bAny (hc : X.calm = true) : BRul X (.builtin "any") (g1 fAny) := b1i (cr_any hc) fun A S H x v d Q wf r h p => by
  unfold fAny at h
  split at h
  · rename_i ds hds
    obtain ⟨ns, hn, e⟩ := Option.map_eq_some_iff.mp h
    subst e
    obtain ⟨a, xs, rfl, h1, h2⟩ := asR_ok wf r hds
    rw [bolsOf_ok hn] at h2
    have e := h2.bls
    subst e
    exact ⟨a, ns, rfl, h1, p _ H .refl wf (.bl _)⟩
  · cases h
def topL : List Int → Option Int
  | [] => none
  | n :: ns => some (ns.foldl max n)
def lowL : List Int → Option Int
  | [] => none
  | n :: ns => some (ns.foldl min n)
theorem foldl_max : ∀ (ns : List Int) (n : Int), (ns.foldl max n = n ∨ ns.foldl max n ∈ ns) ∧ n ≤ ns.foldl max n ∧ ∀ y ∈ ns, y ≤ ns.foldl max n
  | [], n => ⟨.inl rfl, Int.le_refl _, by simp⟩
  | m :: ns, n => by
    obtain ⟨h1, h2, h3⟩ := foldl_max ns (max n m)
    rw [List.foldl_cons]
    refine ⟨?_, by omega, fun y hy => ?_⟩
    · rcases h1 with h1 | h1
      · rw [h1]
        by_cases c : n ≤ m
        · exact .inr (by rw [Int.max_eq_right c]; simp)
        · exact .inl (Int.max_eq_left (by omega))
      · exact .inr (List.mem_cons_of_mem _ h1)
    · rcases List.mem_cons.mp hy with rfl | hy
      · omega
      · exact h3 y hy
theorem foldl_min : ∀ (ns : List Int) (n : Int), (ns.foldl min n = n ∨ ns.foldl min n ∈ ns) ∧ ns.foldl min n ≤ n ∧ ∀ y ∈ ns, ns.foldl min n ≤ y
  | [], n => ⟨.inl rfl, Int.le_refl _, by simp⟩
  | m :: ns, n => by
    obtain ⟨h1, h2, h3⟩ := foldl_min ns (min n m)
    rw [List.foldl_cons]
    refine ⟨?_, by omega, fun y hy => ?_⟩
    · rcases h1 with h1 | h1
      · rw [h1]
        by_cases c : m ≤ n
        · exact .inr (by rw [Int.min_eq_right c]; simp)
        · exact .inl (Int.min_eq_left (by omega))
      · exact .inr (List.mem_cons_of_mem _ h1)
    · rcases List.mem_cons.mp hy with rfl | hy
      · omega
      · exact h3 y hy
theorem topL_ok {ns : List Int} {t : Int} (h : topL ns = some t) : t ∈ ns ∧ ∀ y ∈ ns, y ≤ t := by
  cases ns with
  | nil => cases h
  | cons n ns =>
    cases h
    obtain ⟨h1, h2, h3⟩ := foldl_max ns n
    refine ⟨?_, fun y hy => ?_⟩
    · rcases h1 with h1 | h1
      · rw [h1]; simp
      · exact List.mem_cons_of_mem _ h1
    · rcases List.mem_cons.mp hy with rfl | hy
      · exact h2
      · exact h3 y hy
theorem lowL_ok {ns : List Int} {t : Int} (h : lowL ns = some t) : t ∈ ns ∧ ∀ y ∈ ns, t ≤ y := by
  cases ns with
  | nil => cases h
  | cons n ns =>
    cases h
    obtain ⟨h1, h2, h3⟩ := foldl_min ns n
    refine ⟨?_, fun y hy => ?_⟩
    · rcases h1 with h1 | h1
      · rw [h1]; simp
      · exact List.mem_cons_of_mem _ h1
    · rcases List.mem_cons.mp hy with rfl | hy
      · exact h2
      · exact h3 y hy
/-! min, max of data -/
def allAlike (ds : List PyData) : Bool := ds.all fun x => nn x && SeqAt.shaped x && ds.all (PySem.W.alike x)
theorem allAlike_ok {ds : List PyData} (h : allAlike ds = true) : PySem.W.AlikeAll ds ∧ (∀ d ∈ ds, SeqAt.shaped d = true) := by
  have g : ∀ x ∈ ds, (nn x = true ∧ SeqAt.shaped x = true) ∧ ∀ y ∈ ds, PySem.W.alike x y = true := fun x hx => by
    have := List.all_eq_true.mp h x hx
    rw [Bool.and_eq_true, Bool.and_eq_true] at this
    exact ⟨this.1, List.all_eq_true.mp this.2⟩
  exact ⟨⟨fun x hx y hy => (g x hx).2 y hy, fun x hx e => by have := (g x hx).1.1; rw [e] at this; cases this⟩, fun d hd => (g d hd).1.2⟩
theorem shaped_layAll {ds : List PyData} (h : ∀ d ∈ ds, SeqAt.shaped d = true) : PyData.canLayAll0 ds = true := by
  induction ds with
  | nil => rfl
  | cons d ds ih =>
    unfold PyData.canLayAll0
    rw [SeqAt.canLay_of_shaped (h d (by simp)), ih fun e he => h e (List.mem_cons_of_mem _ he)]; rfl
theorem shaped_depAll {ds : List PyData} (h : ∀ d ∈ ds, SeqAt.shaped d = true) : PyData.depthAll ds ≤ 64 := by
  induction ds with
  | nil => simp [PyData.depthAll]
  | cons d ds ih =>
    rw [PyData.depthAll]
    have h1 := SeqAt.depth_of_shaped (h d (by simp))
    have h2 := ih fun e he => h e (List.mem_cons_of_mem _ he)
    omega
theorem minD_in (x : PyData) (xs : List PyData) : PySem.W.minD x xs ∈ x :: xs := by
  unfold PySem.W.minD
  induction xs generalizing x with
  | nil => simp
  | cons y ys ih =>
    rw [List.foldl_cons]
    have := ih (if PySem.W.dataLt y x then y else x)
    rcases List.mem_cons.mp this with e | e
    · rw [e]
      split <;> simp
    · simp [e]
theorem maxD_in (x : PyData) (xs : List PyData) : PySem.W.maxD x xs ∈ x :: xs := by
  unfold PySem.W.maxD
  induction xs generalizing x with
  | nil => simp
  | cons y ys ih =>
    rw [List.foldl_cons]
    have := ih (if PySem.W.dataLt x y then y else x)
    rcases List.mem_cons.mp this with e | e
    · rw [e]
      split <;> simp
    · simp [e]
/-- an item of a row that reads as d: the abstract one -/
theorem item_rp {pins : List (Addr × Obj)} {s : Shared} {σ : L2.St} {L : List Addr} {xs : List V} {its : List Value} {ds : List PyData} {i : Nat} {v : Value} {d : PyData} {h' : Heap} {bs : List Addr} (I : Inv X pins σ H s) (r : RpL X.K L H xs ds) (rv : Vals xs its) (sh : ∀ d ∈ ds, SeqAt.shaped d = true)
    (hal : PySem.W.AlikeAll ds) (hd : d ∈ ds) (hv : its[i]? = some v) (hr : Reads h' v d bs) (hk : ∀ b o, s.heap.get? b = some o → h'.get? b = some o) : ∃ x, RelV x v ∧ Rp X.K L H x d := by
  obtain ⟨x, hx, rx⟩ : ∃ x, xs[i]? = some x ∧ RelV x v := by
    have hi : i < xs.length := by rw [rv.length]; exact (List.getElem?_eq_some_iff.mp hv).1
    obtain ⟨u, hu, ru⟩ := rv.get (List.getElem?_eq_getElem hi)
    rw [hv] at hu
    cases hu
    exact ⟨_, List.getElem?_eq_getElem hi, ru⟩
  obtain ⟨e, he, re⟩ := r.getV hx
  have me : e ∈ ds := List.mem_of_getElem? he
  obtain ⟨as, ra⟩ := Dp.reads I e x v (Rp.dp _ _ (SeqAt.canLay_of_shaped (sh e me)) re) rx
  have e2 : e = d := PySem.W.alike_unique _ _ _ _ _ (hal.1 e me d hd) (PyProof.Rows.Reads.keeps hk ra) hr
  exact ⟨x, rx, e2 ▸ re⟩
def minDat (ds : List PyData) (S : Sto) : Res Val := match ds with
  | x :: xs => if allAlike (x :: xs) = true then .ok (.d (PySem.W.minD x xs)) S else .no
  | [] => .no
def maxDat (ds : List PyData) (S : Sto) : Res Val := match ds with
  | x :: xs => if allAlike (x :: xs) = true then .ok (.d (PySem.W.maxD x xs)) S else .no
  | [] => .no
theorem min_dat (hc : X.calm = true) (hu : X.A.units + 100 < cLine) {pins : List (Addr × Obj)} {s : Shared} {σ : L2.St} {v : Val} {x : V} {u : Value} {t : Bool} {ds : List PyData} {g : List (Nat × List PyData)} (I : Inv X pins σ H s) (wf : Wf X.K A S H) (r : Rv X.K A H x v) (ru : RelV x u) (hv : seqOf S v = some (t, ds, g))
    (p : Post X.K A H Q (minDat ds S)) : wpAny (model X.prog X.w) X.A (call (.builtin "min") [u]) (EP X pins σ Q) X.xe s := by
  cases ds with
  | nil => exact p.elim
  | cons y ys =>
    unfold minDat at p
    dsimp only at p
    split at p
    case isFalse => exact p.elim
    rename_i hal
    obtain ⟨al, sh⟩ := allAlike_ok hal
    obtain ⟨a, xs, rfl, h1, h2⟩ := seq_at hv wf r
    cases ru
    have hdp := shaped_depAll sh
    have lay := shaped_layAll sh
    cases t with
    | true =>
      obtain ⟨its, rv, ht, hz⟩ := I.tuple (show SqT X.K H a xs from h2)
      obtain ⟨as, rd⟩ := Dp.readsAll I (y :: ys) xs its (RpL.dp _ _ lay h1) rv
      refine PySem.W.min_tuple_data (I.ok.hd hc) (show s.heap.IsTuple a its.toArray from ht) (by simpa using rd) al (by omega) fun i v h' tk bs hv hr hk => ?_
      obtain ⟨z, rz, rp⟩ := item_rp I h1 rv sh al (minD_in y ys) (by simpa using hv) hr hk
      exact ⟨z, H, I.kept (t' := tk) hk, rz, p z H .refl wf rp⟩
    | false =>
      obtain ⟨its, rv, pl, hz⟩ := I.list (show SqL X.K H a xs from h2)
      obtain ⟨as, rd⟩ := Dp.readsAll I (y :: ys) xs its (RpL.dp _ _ lay h1) rv
      refine PySem.W.min_list_data (I.ok.hd hc) pl.isList (by simpa using rd) al (by omega) fun i v h' tk bs hv hr hk => ?_
      obtain ⟨z, rz, rp⟩ := item_rp I h1 rv sh al (minD_in y ys) (by simpa using hv) hr hk
      exact ⟨z, H, I.kept (t' := tk) hk, rz, p z H .refl wf rp⟩
theorem max_dat (hc : X.calm = true) (hu : X.A.units + 100 < cLine) {pins : List (Addr × Obj)} {s : Shared} {σ : L2.St} {v : Val} {x : V} {u : Value} {t : Bool} {ds : List PyData} {g : List (Nat × List PyData)} (I : Inv X pins σ H s) (wf : Wf X.K A S H) (r : Rv X.K A H x v) (ru : RelV x u) (hv : seqOf S v = some (t, ds, g))
    (p : Post X.K A H Q (maxDat ds S)) : wpAny (model X.prog X.w) X.A (call (.builtin "max") [u]) (EP X pins σ Q) X.xe s := by
  cases ds with
  | nil => exact p.elim
  | cons y ys =>
    unfold maxDat at p
    dsimp only at p
    split at p
    case isFalse => exact p.elim
    rename_i hal
    obtain ⟨al, sh⟩ := allAlike_ok hal
    obtain ⟨a, xs, rfl, h1, h2⟩ := seq_at hv wf r
    cases ru
    have hdp := shaped_depAll sh
    have lay := shaped_layAll sh
    cases t with
    | true =>
      obtain ⟨its, rv, ht, hz⟩ := I.tuple (show SqT X.K H a xs from h2)
      obtain ⟨as, rd⟩ := Dp.readsAll I (y :: ys) xs its (RpL.dp _ _ lay h1) rv
      refine PySem.W.max_tuple_data (I.ok.hd hc) (show s.heap.IsTuple a its.toArray from ht) (by simpa using rd) al (by omega) fun i v h' tk bs hv hr hk => ?_
      obtain ⟨z, rz, rp⟩ := item_rp I h1 rv sh al (maxD_in y ys) (by simpa using hv) hr hk
      exact ⟨z, H, I.kept (t' := tk) hk, rz, p z H .refl wf rp⟩
    | false =>
      obtain ⟨its, rv, pl, hz⟩ := I.list (show SqL X.K H a xs from h2)
      obtain ⟨as, rd⟩ := Dp.readsAll I (y :: ys) xs its (RpL.dp _ _ lay h1) rv
      refine PySem.W.max_list_data (I.ok.hd hc) pl.isList (by simpa using rd) al (by omega) fun i v h' tk bs hv hr hk => ?_
      obtain ⟨z, rz, rp⟩ := item_rp I h1 rv sh al (maxD_in y ys) (by simpa using hv) hr hk
      exact ⟨z, H, I.kept (t' := tk) hk, rz, p z H .refl wf rp⟩
def gMax : List Val → Sto → Res Val
  | [.d (.int i), .d (.int j)], S => .ok (.d (.int (if j > i then j else i))) S
  | [v], S => match (asR S v).bind intsOf with
    | some ns => match topL ns with
      | some t => .ok (.d (.int t)) S
      | none => .no
    | none => match seqOf S v with
      | some q => maxDat q.2.1 S
      | none => .no
  | _, _ => .no
theorem bMax (hc : X.calm = true) (hu : X.A.units + 100 < cLine) : BRul X (.builtin "max") gMax := by
  intro pins s σ A S H xs us vs Q I wf rvs rus p
  unfold gMax at p
  split at p
  · cases rvs with | cons r1 r2 => cases r2 with | cons r2 r3 => cases r3; exact call_max2 hc pins s σ H _ us Q I rus ⟨_, _, by rw [Rp.int_inv r1, Rp.int_inv r2], p _ H .refl wf (.int _)⟩
  · split at p
    · rename_i ns hns
      split at p
      · rename_i t ht
        cases rvs with | cons r1 r2 =>
          cases r2
          obtain ⟨ds, h1, h2⟩ := Option.bind_eq_some_iff.mp hns
          obtain ⟨a, ys, rfl, h3, h4⟩ := asR_ok wf r1 h1
          rw [intsOf_ok h2] at h4
          have e := h4.ints
          subst e
          obtain ⟨t1, t2⟩ := topL_ok ht
          refine cr_max hc pins s σ H _ us Q I rus ⟨a, ns, rfl, h3, List.length_pos_of_mem t1, fun m h5 h6 => ?_⟩
          have e : m = t := Int.le_antisymm (t2 m h5) (h6 t t1)
          rw [e]
          exact p _ H .refl wf (.int _)
      · exact p.elim
    · split at p
      · rename_i q hq
        cases rvs with | cons r1 r2 =>
        cases r2
        obtain ⟨u, rfl, ru⟩ := vals1 rus
        exact max_dat hc hu (t := q.1) (g := q.2.2) I wf r1 ru hq p
      · exact p.elim
  · exact p.elim
def gMin : List Val → Sto → Res Val
  | [.d (.int i), .d (.int j)], S => .ok (.d (.int (if j < i then j else i))) S
  | [v], S => match (asR S v).bind intsOf with
    | some ns => match lowL ns with
      | some t => .ok (.d (.int t)) S
      | none => .no
    | none => match seqOf S v with
      | some q => minDat q.2.1 S
      | none => .no
  | _, _ => .no
theorem bMin (hc : X.calm = true) (hu : X.A.units + 100 < cLine) : BRul X (.builtin "min") gMin := by
  intro pins s σ A S H xs us vs Q I wf rvs rus p
  unfold gMin at p
  split at p
  · cases rvs with | cons r1 r2 => cases r2 with | cons r2 r3 => cases r3; exact call_min2 hc pins s σ H _ us Q I rus ⟨_, _, by rw [Rp.int_inv r1, Rp.int_inv r2], p _ H .refl wf (.int _)⟩
  · split at p
    · rename_i ns hns
      split at p
      · rename_i t ht
        cases rvs with | cons r1 r2 =>
          cases r2
          obtain ⟨ds, h1, h2⟩ := Option.bind_eq_some_iff.mp hns
          obtain ⟨a, ys, rfl, h3, h4⟩ := asR_ok wf r1 h1
          rw [intsOf_ok h2] at h4
          have e := h4.ints
          subst e
          obtain ⟨t1, t2⟩ := lowL_ok ht
          refine cr_min hc pins s σ H _ us Q I rus ⟨a, ns, rfl, h3, List.length_pos_of_mem t1, fun m h5 h6 => ?_⟩
          have e : m = t := Int.le_antisymm (h6 t t1) (t2 m h5)
          rw [e]
          exact p _ H .refl wf (.int _)
      · exact p.elim
    · split at p
      · rename_i q hq
        cases rvs with | cons r1 r2 =>
        cases r2
        obtain ⟨u, rfl, ru⟩ := vals1 rus
        exact min_dat hc hu (t := q.1) (g := q.2.2) I wf r1 ru hq p
      · exact p.elim
  · exact p.elim
end
end MV
set_option Elab.async false
set_option linter.all false
set_option maxRecDepth 100000
set_option maxHeartbeats 1000000
/-! Readings by mirrors: sorted, isinstance, zip, enumerate. -/
namespace MV
open PySem PySem.Spec PyProof.Rows L2
/-! ### sorted -/
mutual
theorem reads_there {h : Heap} : ∀ {v : Value} {d : PyData} {as : List Addr}, Reads h v d as → ∀ b ∈ as, ∃ o, h.get? b = some o
  | _, _, _, .none, b, hb => by cases hb
  | _, _, _, .bool _, b, hb => by cases hb
  | _, _, _, .int _ _, b, hb => by cases hb
  | _, _, _, .str _ _, b, hb => by cases hb
  | _, _, _, .list h1 _ _ t, b, hb => by
    rcases List.mem_cons.mp hb with rfl | hb
    · exact ⟨_, h1⟩
    · exact readsAll_there t b hb
  | _, _, _, .tuple h1 _ _ t, b, hb => readsAll_there t b hb
  | _, _, _, .dict h1 _ _ t t', b, hb => by
    rcases List.mem_append.mp hb with hb | hb
    · rcases List.mem_cons.mp hb with rfl | hb
      · exact ⟨_, h1⟩
      · exact readsAll_there t b hb
    · exact readsAll_there t' b hb
theorem readsAll_there {h : Heap} : ∀ {v : List Value} {d : List PyData} {as : List Addr}, ReadsAll h v d as → ∀ b ∈ as, ∃ o, h.get? b = some o
  | _, _, _, .nil, b, hb => by cases hb
  | _, _, _, .cons t t', b, hb => by
    rcases List.mem_append.mp hb with hb | hb
    · exact reads_there t b hb
    · exact readsAll_there t' b hb
end
def sortOk (ds : List PyData) : Prop := PySem.W.AllAlike ds ∧ PySem.W.Sortable ds ∧ ds.length ≤ sizeLine ∧ ∀ d ∈ ds, SeqAt.shaped d = true
def sortD (ds : List PyData) : List PyData := ds.mergeSort (PySem.W.dataLe false id)
open Classical in
noncomputable def gSorted : List Val → Sto → Res Val
  | [v], S => match seqOf S v with
    | some q => if sortOk q.2.1 then .ok (.f (.lst (sortD q.2.1))) S else .no
    | none => .no
  | _, _ => .no
section
variable {X : Cx} {K : Frg} {a b : Expr} {fa fb : Sx} {pos : Pos} {A A' A2 : Wd} {H H' H2 : Hp} {S S' : Sto} {Q : VK} {ρ : Envi} {σ : L2.St} {D : Ends}
theorem rpl_each : ∀ {xs : List V} {us : List Value} {ds : List PyData}, RpL K A.V H xs ds → Vals xs us → PySem.W.EachIs (fun u d => ∃ x, RelV x u ∧ Rp K A.V H x d) us ds
  | _, _, _, .nil, .nil => .nil
  | _, _, _, .cons r t, .cons q p => .cons ⟨_, q, r⟩ (rpl_each t p)
theorem each_rpl : ∀ {us : List Value} {ds : List PyData}, PySem.W.EachIs (fun u d => ∃ x, RelV x u ∧ Rp K A.V H x d) us ds → ∃ xs, RpL K A.V H xs ds ∧ Vals xs us
  | _, _, .nil => ⟨[], .nil, .nil⟩
  | _, _, .cons ⟨x, q, r⟩ t => by
    obtain ⟨xs, h1, h2⟩ := each_rpl t
    exact ⟨x :: xs, .cons r h1, .cons q h2⟩
theorem shaped_lay {ds : List PyData} (h : ∀ d ∈ ds, SeqAt.shaped d = true) : PyData.canLayAll0 ds = true := by
  induction ds with
  | nil => rfl
  | cons d ds ih =>
    unfold PyData.canLayAll0
    rw [SeqAt.canLay_of_shaped (h d (by simp)), ih fun e he => h e (List.mem_cons_of_mem _ he)]; rfl
theorem each_reads {h : Heap} : ∀ {us : List Value} {ds : List PyData} {as : List Addr}, ReadsAll h us ds as → PySem.W.EachIs (fun u d => ∃ as, Reads h u d as) us ds
  | _, _, _, .nil => .nil
  | _, _, _, .cons r t => .cons ⟨_, r⟩ (each_reads t)
theorem bSorted (hu : X.A.units + 100 < cLine) : BRul X (.builtin "sorted") gSorted := by
  intro pins s σ A S H xs us vs Q I wf rvs rus p
  unfold gSorted at p
  split at p
  case h_2 => exact p.elim
  rename_i v _
  cases rvs with | cons r1 r2 =>
  cases r2
  split at p
  case h_2 => exact p.elim
  rename_i q hq
  split at p
  case isFalse => exact p.elim
  rename_i ok
  obtain ⟨al, so, hl, sh⟩ := ok
  obtain ⟨a, ys, rfl, h1, h2⟩ := seq_at (t := q.1) (ds := q.2.1) (g := q.2.2) hq wf r1
  obtain ⟨u, rfl, ru⟩ := vals1 rus
  cases ru
  generalize q.2.1 = ds at *
  have key : ∃ its o n T, (T = "list" ∨ T = "tuple") ∧ Vals ys its ∧ s.heap.get? a = some o ∧ o.cls = .type T ∧ o.data = .seq its.toArray n := by
    cases ht : q.1 with
    | true =>
      rw [ht] at h2
      obtain ⟨its, rv, ⟨o, e1, e2, n, e3⟩, _⟩ := I.tuple (show SqT X.K H a ys from h2)
      exact ⟨its, o, n, "tuple", .inr rfl, rv, e1, e2, e3⟩
    | false =>
      rw [ht] at h2
      obtain ⟨its, rv, ⟨o, n, e1, e2, _, e3⟩, _⟩ := I.list (show SqL X.K H a ys from h2)
      exact ⟨its, o, n, "list", .inl rfl, rv, e1, e2, e3⟩
  obtain ⟨its, o, n, T, hT, rv, e1, e2, e3⟩ := key
  have hlen : its.length = ds.length := by rw [← rv.length, h1.length]
  refine Calls.call_function_entry kind_sorted plain_sorted entry_sorted (args_sorted1 _) ?_
  unfold Builtin.«sorted»
  refine wpAny_bind (m := checkCount "sorted" 1 1 _) (wpAny_pure ?_)
  refine wpAny_bind (wpAny_collect_seq a hT e1 e2 e3 (fun h' hk => ?_) (by rw [List.size_toArray, hlen]; exact hl))
  refine wpAny_bind (wpAny_newList ?_ (by show its.length ≤ _; rw [hlen]; exact hl))
  have I1 : Inv X pins σ H { s with heap := h' } := I.kept (t' := s.toks) hk
  obtain ⟨as, rd⟩ := Dp.readsAll I1 ds ys its (RpL.dp ds ys (shaped_lay sh) h1) rv
  generalize hL : h'.objs.size = L
  have hnone : h'.get? L = none := Heap.get?_none_of_le (by rw [← hL]; exact Nat.le_refl _)
  have hkeep : ∀ b o, h'.get? b = some o → (h'.push { cls := .type "list", data := .seq its.toArray }).get? b = some o := fun b o e => Heap.get?_push_of_some _ e
  have hobj : (h'.push { cls := .type "list", data := .seq its.toArray }).get? L = some (seqObj "list" its.toArray 0) := by rw [← hL]; exact Heap.get?_push_size _ rfl
  refine wpAny_bind (wpAny_holding ?_)
  refine PySem.W.list_sort_data (vs := its) (bs := ds) (enc := id) (R := fun u d => ∃ x, RelV x u ∧ Rp X.K A.V H x d) (n := 0) hobj (rpl_each h1 rv) ?_ (by simpa using al) (by simpa using so) hl ?_ fun out ho eo => ?_
  · have z := each_reads rd
    have z2 : ∀ {us : List Value} {ds : List PyData}, PySem.W.EachIs (fun u d => ∃ as, Reads h' u d as) us ds → PySem.W.EachIs (fun v b => ∃ as, Reads (h'.push { cls := .type "list", data := .seq its.toArray }) v (id b) as ∧ L ∉ as) us ds := fun z => z.mono fun u d ⟨as, r⟩ => ⟨as, PyProof.Rows.Reads.keeps hkeep r, fun m => by
      obtain ⟨o, e⟩ := reads_there r L m
      rw [hnone] at e; cases e⟩
    exact z2 z
  · intro d hd
    have h64 := SeqAt.depth_of_shaped (sh d hd)
    show X.A.in1.units + 1 + d.depth < cLine
    have : X.A.in1.units = X.A.units + 1 := rfl
    omega
  · obtain ⟨zs, r3, r4⟩ := each_rpl eo
    obtain ⟨ep, he⟩ := sortedHeap_at (h := h'.push { cls := .type "list", data := .seq its.toArray }) (vs := its) (n := 0) (out := out.toArray) hobj
    refine wpAny_pure ⟨_, rfl, ?_⟩
    have kk : ∀ b u, h'.get? b = some u → (sortedHeap (h'.push { cls := .type "list", data := .seq its.toArray }) L its out.toArray).get? b = some u := fun b u e' => by
      have hlt := Heap.lt_size e'
      rw [sortedHeap_old (by rw [← hL]; exact Nat.ne_of_lt hlt) (by rw [Heap.size_push]; exact Nat.lt_succ_of_lt hlt)]
      exact hkeep b u e'
    have hp : H L = none := I1.hok.fresh (Nat.le_of_eq hL)
    refine ⟨.ref L, upd H L (.lst zs), I1.laid (t' := s.toks) kk (Nat.le_of_eq hL) ⟨?_, out, ep, r4, he⟩, rfl, p.fresh wf hp r3⟩
    rw [r4.length, ho]; exact hl

/-! ### isinstance -/
def kind (S : Sto) : Val → Option String
  | .d .none => some "NoneType"
  | .d (.bool _) => some "bool"
  | .d (.int _) => some "int"
  | .d (.str _) => some "str"
  | .d (.list _) => some "list"
  | .d (.tuple _) => some "tuple"
  | .d (.dict _) => some "dict"
  | .z _ => some "list"
  | .c n => match S[n]? with
    | some (.lst _) => some "list"
    | some (.dic _) => some "dict"
    | some (.rcd _) => some "dict"
    | some (.nls _) => some "list"
    | _ => none
  | _ => none
theorem kind_ok {x : V} {v : Val} {t : String} (w : Wf K A S H) (r : Rv K A H x v) (h : kind S v = some t) : TyX K H x (.type t) := by
  cases v with
  | f k => cases h
  | g cs i => cases h
  | x => cases h
  | z ds =>
    cases h
    obtain ⟨a, xs, rfl, h1, _⟩ := r
    rcases h1 with ⟨h1 | ⟨o, h1⟩, _⟩ | (h1 | ⟨o, h1⟩) | ⟨o, its, n, h1, h2, _⟩
    · exact .base (.lst h1)
    · exact .base (.frz h1)
    · cases h1
    · cases h1
    · exact .kList h1 h2
  | c n =>
    obtain ⟨a, ha, rfl⟩ := r
    have h : (match S[n]? with
      | some (.lst _) => some "list"
      | some (.dic _) => some "dict"
      | some (.rcd _) => some "dict"
      | some (.nls _) => some "list"
      | _ => none) = some t := h
    split at h
    · rename_i ds q
      cases h
      obtain ⟨xs, h2, _⟩ := w.ok n a _ ha q
      exact .base (.lst h2)
    · rename_i ds q
      cases h
      obtain ⟨xs, h2, _⟩ := w.ok n a _ ha q
      exact .base (.dK h2)
    · rename_i ds q
      cases h
      obtain ⟨xs, h2, _⟩ := w.ok n a _ ha q
      exact .base (.dK h2)
    · rename_i ds q
      cases h
      obtain ⟨xs, h2, _⟩ := w.ok n a _ ha q
      exact .base (.lst h2)
    · cases h
  | d y =>
    have r : Rp K A.V H x y := r
    cases r with
    | non => cases h; exact .base .non
    | bl b => cases h; exact .base (.bl b)
    | int b => cases h; exact .base (.int b)
    | str b => cases h; exact .base (.str b)
    | lst l t => cases h; exact .base (.lst l.1)
    | dic l n t => cases h; exact .base (.dK l)
    | tup l t =>
      cases h
      rcases l with ⟨h1 | h1, _⟩ | (h1 | ⟨o, h1⟩) | ⟨o, its, n, h1, h2, _⟩
      · exact .base (.tup h1)
      · exact h1.elim
      · cases h1
      · cases h1
      · exact .kTuple h1 h2
def isOf (T t : String) : Bool := t == T || (t == "bool" && T == "int")
def kinds6 : List String := ["NoneType", "bool", "int", "str", "list", "tuple", "dict"]
theorem kits : (kinds6.all fun t => (["bool", "int", "str", "list", "tuple", "dict"] : List String).all fun T => decide (kitB t T = some (isOf T t))) = true := by decide +kernel
theorem kind_in {v : Val} {t : String} (h : kind S v = some t) : t ∈ kinds6 := by
  unfold kind at h
  split at h <;> first | (cases h; simp [kinds6]; done) | skip
  · split at h <;> first | (cases h; simp [kinds6]; done) | (cases h; done)
  · cases h
theorem kit_at {t T : String} (h : t ∈ kinds6) (hT : T ∈ (["bool", "int", "str", "list", "tuple", "dict"] : List String)) : kitB t T = some (isOf T t) :=
  of_decide_eq_true (List.all_eq_true.mp (List.all_eq_true.mp kits t h) T hT)
def evIsi (T : String) (f : Sx) : Sx := fun ρ S => (f ρ S).bind fun v S1 => match kind S1 v.th with
  | some t => .ok (.d (.bool (isOf T t))) S1
  | none => .no
theorem eIsi {x : Str} {p p2 : Pos} {T : String} (hT : T ∈ (["bool", "int", "str", "list", "tuple", "dict"] : List String)) (hg : Gl X "isinstance") (hm : X.mg "isinstance" = none) (hg2 : Gl X x) (hm2 : X.mg x = none) (hv2 : bootBuiltins x = some (.type T)) (ha : PE X a (tE X.K fa))
    (hn2 : x ≠ "__name__" := by decide) (hd2 : (x == ("__debug__" : Str)) = false := by decide)
    (he : starEach [a, .Name x p2] X.env = (false, eval a X.env) :: starEach [.Name x p2] X.env := by rfl) (he2 : starEach [.Name x p2] X.env = (false, eval (.Name x p2) X.env) :: starEach [] X.env := by rfl) (hpl : (backTo pos (starEach [.Name x p2] X.env)).any (·.1) = false := by rfl) :
    PE X (.Call (.Name "isinstance" p) [a, .Name x p2] [] pos) (tE X.K (evIsi T fa)) :=
  PEi (pe_callB call_isi hg hm (by decide +kernel) (pa_cons ha (pa_cons (pe_bltn (v := .ty T) hg2 hm2 hv2 rfl hn2 hd2) pa_nil he2) he) (by decide) (by decide) he hpl) fun σ H Q ⟨A, S, ρ, w, env, p⟩ =>
  at_seq (P := Post X.K A H Q) w env p (fun h => h) (fun _ _ h => h) fun v S1 y H1 e1 w1 r1 p1 => by
    split at p1
    · rename_i t ht
      exact ⟨y, .ty T, .type t, .type T, isOf T t, rfl, .ty T, kind_ok w1 r1 ht, kit_ty (kit_at (kind_in ht) hT), p1 _ H1 e1 w1 (.bl _)⟩
    · exact p1.elim

/-! ### zip -/
def zipD (ds es : List PyData) : List PyData := (ds.zip es).map fun p => .tuple [p.1, p.2]
def gZip (S : Sto) : List Val → Option Src
  | [v, w] => match seqOf S v, seqOf S w with
    | some q, some r => if q.1 = r.1 then some ⟨zipD q.2.1 r.2.1, q.2.2 ++ r.2.2⟩ else none
    | _, _ => none
  | _ => none
theorem zipD_length (ds es : List PyData) : (zipD ds es).length = min ds.length es.length := by simp [zipD]
theorem zipD_get {ds es : List PyData} {i : Nat} {d e : PyData} (h1 : ds[i]? = some d) (h2 : es[i]? = some e) : (zipD ds es)[i]? = some (.tuple [d, e]) := by
  simp [zipD, List.zip, List.getElem?_zipWith, h1, h2]
theorem pair_new {x y : V} {d e : PyData} {T : Addr} (w : Wf K A S H) (hT : H T = none) (r1 : Rp K A.V H x d) (r2 : Rp K A.V H y e) : Ext A H A (upd H T (.tup [x, y])) ∧ Wf K A S (upd H T (.tup [x, y])) ∧ Rp K A.V (upd H T (.tup [x, y])) (.ref T) (.tuple [d, e]) :=
  ⟨.laid hT, w.laid hT, .tup (.inl ⟨.inl upd_same, w.off hT⟩) (.cons (r1.mono (Ext.laid hT).kp) (.cons (r2.mono (Ext.laid hT).kp) .nil))⟩
theorem src_zip {v u : Val} {S0 : Sto} {t : Bool} {ds es : List PyData} {g g' : List (Nat × List PyData)} {a b : Addr} (h : seqOf S0 v = some (t, ds, g)) (h' : seqOf S0 u = some (t, es, g')) :
    SrcW K (if t = true then RZ.ItzT K a b else Itz K a b) ⟨zipD ds es, g ++ g'⟩ (fun A H => Rv K A H (.ref a) v ∧ Rv K A H (.ref b) u) := by
  have both : ∀ {A : Wd} {S : Sto} {H : Hp}, Wf K A S H → (Rv K A H (.ref a) v ∧ Rv K A H (.ref b) u) → GOk S ⟨zipD ds es, g ++ g'⟩ → ∃ xs ys, RpL K A.V H xs ds ∧ RpL K A.V H ys es ∧ SqA K t H a xs ∧ SqA K t H b ys := by
    intro A S H w r gk
    obtain ⟨a', xs, e1, q1, s1⟩ := seq_stand h w r.1 fun p hp => gk p (List.mem_append_left _ hp)
    obtain ⟨b', ys, e2, q2, s2⟩ := seq_stand h' w r.2 fun p hp => gk p (List.mem_append_right _ hp)
    cases e1
    cases e2
    exact ⟨xs, ys, q1, q2, s1, s2⟩
  refine ⟨fun A H A' H' e r => ⟨r.1.kx e, r.2.kx e⟩, fun i A S H hi w r gk => ?_, fun A S H w r gk => ?_, fun i A S H x H' hi w r gk y => ?_⟩
  all_goals obtain ⟨xs, ys, q1, q2, s1, s2⟩ := both w r gk
  · rw [zipD_length] at hi
    obtain ⟨x, hx, _⟩ := q1.get (List.getElem?_eq_getElem (show i < ds.length by omega))
    obtain ⟨y, hy, _⟩ := q2.get (List.getElem?_eq_getElem (show i < es.length by omega))
    cases t with
    | true => exact ⟨xs, ys, x, y, s1, s2, hx, hy⟩
    | false => exact ⟨xs, ys, x, y, s1, s2, hx, hy⟩
  · rw [zipD_length]
    have l1 := q1.length
    have l2 := q2.length
    cases t with
    | true => exact ⟨xs, ys, s1, s2, by omega⟩
    | false => exact ⟨xs, ys, s1, s2, by omega⟩
  · have fin : ∃ T x' y', x = .ref T ∧ H T = none ∧ H' = upd H T (.tup [x', y']) ∧ xs[i]? = some x' ∧ ys[i]? = some y' := by
      cases t with
      | true => obtain ⟨T, x', y', e1, e2, e3, f1, f2⟩ := y; exact ⟨T, x', y', e1, e2, e3, f1 xs s1, f2 ys s2⟩
      | false => obtain ⟨T, x', y', e1, e2, e3, f1, f2⟩ := y; exact ⟨T, x', y', e1, e2, e3, f1 xs s1, f2 ys s2⟩
    obtain ⟨T, x', y', rfl, hT, rfl, f1, f2⟩ := fin
    obtain ⟨d, h1, r1⟩ := q1.getV f1
    obtain ⟨e, h2, r2⟩ := q2.getV f2
    obtain ⟨n1, n2, n3⟩ := pair_new (x := x') (y := y') w hT r1 r2
    exact ⟨_, zipD_get h1 h2, n1, n2, n3⟩
def iByS (g : Sto → List Val → Option Src) (f : SA) : SI := fun ρ S => (f ρ S).bind fun vs S1 => match g S1 vs with
  | some s => .ok s S1
  | none => .no
theorem iZ {e e2 : Expr} {f : SA} {p tpos : Pos} {elts : List Expr} {kk : Nat} (hg : Gl X "zip") (hm : X.mg "zip" = none) (ha : PA X [e, e2] (tAr X.K f))
    (hs : starEach [e, e2] X.env = (false, eval e X.env) :: starEach [e2] X.env := by rfl) (hpl : (backTo pos (starEach [e2] X.env)).any (·.1) = false := by rfl) :
    PI X (.Tuple elts kk tpos) (.Call (.Name "zip" p) [e, e2] [] pos) (tI X.K (iByS gZip f)) :=
  PIi (RZ.pi_zipA hg hm ha hs hpl) fun σ H R ⟨A, S, ρ, w, env, p⟩ => ⟨A, S, ρ, w, env, PostA.seq (P := PostI X.K A H R) p (fun h => h) (fun _ _ h => h) fun vs S1 xs H1 e1 w1 r1 p1 => by
    split at p1
    · rename_i s hs
      unfold gZip at hs
      split at hs
      · split at hs
        · rename_i q r hq hr
          split at hs
          · rename_i et
            cases hs
            cases r1 with | cons r1 r2 => cases r2 with | cons r2 r3 =>
              cases r3
              obtain ⟨t, ds, g⟩ := q
              obtain ⟨t', es, g'⟩ := r
              dsimp only at et
              subst et
              obtain ⟨a, xs, rfl, q1, s1⟩ := seq_at hq w1 r1
              obtain ⟨b, ys, rfl, q2, s2⟩ := seq_at hr w1 r2
              have fin := p1 _ _ H1 e1 w1 (src_zip (a := a) (b := b) hq hr) ⟨r1, r2⟩
              refine ⟨a, b, xs, ys, rfl, ?_⟩
              cases t with
              | true => exact .inr ⟨s1, s2, fin⟩
              | false => exact .inl ⟨s1, s2, fin⟩
          · cases hs
        · cases hs
      · cases hs
    · exact p1.elim⟩
end
end MV
set_option Elab.async false
set_option linter.all false
set_option maxRecDepth 100000
/-! Readings by mirrors: defs of the text, the end of a law. -/
namespace MV
open PySem PySem.Spec PyProof.Rows L2
/-- the name x calls a def that keeps the mirror m, by at most level k -/
structure Cal (P : Program) (w : World) (K : Frg) (mg : Str → Option Value) (base : Heap) (k : Nat) (x : Str) (m : Fn) : Prop where
  ex : ∃ (f : Addr) (fd : FuncData) (ps : List Str), FnG P w K mg base k f fd ps (spF K m) ∧ mg x = some (.ref f) ∧ PySem.W.keepIn K (.ref f) = true ∧ Binds K fd ps []
theorem hu_room {k : Nat} {A : Around} (hr : Room k A) : A.units + 100 < cLine := by have := hr.un; omega
section
variable {X : Cx} {K : Frg} {pos : Pos} {x : Str} {p : Pos} {e : Expr} {es : List Expr} {f : SA} {k j : Nat} {m : Fn}
theorem eCal (C : Cal X.prog X.w X.K X.mg X.base k x m) (hr : Room j X.A) (gd : X.A.guards = some []) (hk : k ≤ j) (hg : Gl X x) (ha : PA X (e :: es) (tAr X.K f)) (hdb : (x == ("__debug__" : Str)) = false := by decide)
    (he : starEach (e :: es) X.env = (false, eval e X.env) :: starEach es X.env := by rfl) (hpl : (backTo pos (starEach es X.env)).any (·.1) = false := by rfl) : PE X (.Call (.Name x p) (e :: es) [] pos) (tE X.K (evCall m f)) := by
  obtain ⟨fa, fd, ps, F, hm, hkp, hb⟩ := C.ex
  exact eF F (hr.mono hk) gd hg hm hkp hb ha hdb he hpl
theorem eCal0 (C : Cal X.prog X.w X.K X.mg X.base k x m) (hr : Room j X.A) (gd : X.A.guards = some []) (hk : k ≤ j) (hg : Gl X x) (hdb : (x == ("__debug__" : Str)) = false := by decide) : PE X (.Call (.Name x p) [] [] pos) (tE X.K (evCall m aNil)) := by
  obtain ⟨fa, fd, ps, F, hm, hkp, hb⟩ := C.ex
  exact eF0 F (hr.mono hk) gd hg hm hkp hb hdb
end
section
variable {P : Program} {w : World} {K : Frg} {mg : Str → Option Value} {base : Heap} {x qual : Str} {st : Stmt} {fa : Addr} {fd : FuncData} {N ps : List Str} {k np : Nat} {body : Ss}
theorem cal_mk (F : Fun K x qual st fa fd) (S : FnScope N ps (defScope st)) (hnp : ps.length = np) (hm : mg x = some (.ref fa)) (hb : Binds K fd ps [])
    (h : ∀ (cdv : Value) (A : Around) (outer : List PySem.Env) (s : Shared) (H : Hp) (E : XK), Room k (A.deeper (envOfC qual (defScope st) s.heap.objs.size fa cdv)) → A.guards = some [] → PSs (cxOf CX0 P w K mg base N qual (defScope st) fa cdv A outer s H E).nox (defBody st) (tS K body)) :
    Cal P w K mg base (k + 1) x (mkFn np N.length body) := ⟨fa, fd, ps, fn_ok F S hnp h, hm, F.kp, hb⟩
/-- no mirror at all: the base of a recursion -/
theorem cal_no (F : Fun K x qual st fa fd) (hm : mg x = some (.ref fa)) (hb : Binds K fd ps []) : Cal P w K mg base k x (fun _ _ => .no) := ⟨fa, fd, ps, ⟨fun _ _ _ _ h => by
  obtain ⟨_, _, _, _, _, h⟩ := h; exact h.elim, fun _ _ _ _ _ _ _ _ _ _ _ _ _ _ h => by
  obtain ⟨_, _, _, _, _, h⟩ := h; exact h.elim⟩, hm, F.kp, hb⟩
/-- the law's own promise, from its mirror at the script -/
theorem law_sp {m : Fn} {n : Nat} (h : ∀ ns : List Int, ns.length ≤ n → ∃ S, m [.z (ns.map .int)] [] = .ok (.d (.bool true)) S) (H : Hp) (a : Addr) (ns : List Int) (hl : ns.length ≤ n) (hO : Only H) (hS : SqL K H a (ns.map V.int)) :
    spF K m [.ref a] H (fun v _ => v = .bl true) fun _ _ _ => False := by
  obtain ⟨S, e⟩ := h ns hl
  have w0 : Wf K ⟨[], []⟩ [] H := ⟨rfl, .nil, fun n k h1 => by simp at h1, fun n a k h1 => by simp at h1, fun p hp => by cases hp⟩
  refine ⟨⟨[], []⟩, [], [.z (ns.map .int)], w0, .cons ⟨a, ns.map V.int, rfl, ?_, RpL.of_ints ns⟩ .nil, ?_⟩
  · rcases hS with hS | hS
    · exact .inl ⟨hS, by simp [Wd.V]⟩
    · exact .inr (.inr hS)
  · rw [e]
    exact fun v H' _ _ r => Rp.bl_inv r
end
/-! the end of a law -/
section
variable {P : Program} {w : World} {K : Frg} {mg mb : Str → Option Value} {k : Nat} {fa a : Addr} {fd : FuncData} {x : Str} {sp : Sp} {s1 : Shared} {us : List Value} {ns : List Int}
/-- the law's def called at an abstract heap in which no more than the script is told -/
theorem law_at (inK : K.In s1.heap) (nsM : s1.heap.Ns mainGlobals mg) (nsB : s1.heap.Ns builtinsNs mb) (bltn : ∀ y : Str, y ≠ "__name__" → mb y = bootBuiltins y) (lim : s1.heap.NoLimit) (g0 : s1.gens = #[])
    (obj : s1.heap.get? a = some { cls := .type "list", data := .seq us.toArray }) (room : Room k callerA) (F : ∀ base : Heap, K.In base → base.Ns mainGlobals mg → FnG P w K mg base k fa fd [x] sp) (bnd : ∀ (s : Shared) (u : Value), BindsTo s fd ⟨[u], []⟩ [(x, u)])
    (H : Hp) (few : Only H) (promise : sp [.ref a] H (fun v _ => v = .bl true) E0) (told : HOk P w H s1.heap) (sole : ∀ b, H b ≠ none → b = a) (own : H a ≠ none → K.lookup a = none) :
    codeAny (model P w) callerA (.call (.ref fa) ⟨[.ref a], []⟩) (fun r s' => r = .ok (.ret (.bool true)) ∧ OldK s1.heap s'.heap ∧ s'.os = s1.os ∧ AllBare s'.gens) s1 := by
  have dictFree : ∀ {b : Addr} {o : Obj} {es : Array DictEntry} {ep : Nat}, s1.heap.get? b = some o → o.data = .dict es ep → H b = none := by
    intro b o es ep got isD
    by_cases z : H b = none
    · exact z
    · have eb := sole b z
      rw [eb, obj] at got
      cases got
      have bad : Data.seq us.toArray _ = Data.dict es ep := isD
      cases bad
  have space : ∀ {b : Addr} {m : Str → Option Value}, s1.heap.Ns b m → (hidT s1.heap H).Ns b m := by
    rintro b m ⟨o, es, ep, got, isD, rest⟩
    exact ⟨o, es, ep, hidT_get got (dictFree got isD), isD, rest⟩
  have written : K.In (hidT s1.heap H) := by
    intro b o got
    refine hidT_get (inK b o got) ?_
    by_cases z : H b = none
    · exact z
    · have eb := sole b z
      subst eb
      rw [own z] at got
      cases got
  obtain ⟨mc, lim1, lim2⟩ := lim
  have env0 : Env0 P w K mg (hidT s1.heap H) callerA [] s1 H := {
    frames := rfl
    mod := ⟨written, space nsM, ⟨mb, space nsB, bltn⟩, ⟨mc, space lim1, lim2⟩⟩
    bs := fun b o got => of_hidT got
    bsz := Nat.le_of_eq (hidT_size _ _)
    funs := trivial
    frf := fun b mem => by cases (show b ∈ ([] : List Addr) from mem)
    hok := told
    bare := .of_eq g0 }
  refine codeAny_mono ((F _ written (space nsM)).runs callerA [] s1 H ⟨[.ref a], []⟩ [.ref a] [.ref a] _ E0 room rfl env0 (bnd s1 (.ref a)) (.cons rfl .nil) promise) ?_
  intro res s2 q
  match res, q with
  | .ok .next, q => exact q.elim
  | .ok .brk, q => exact q.elim
  | .ok .cont, q => exact q.elim
  | .error e, q => exact q.elim
  | .ok (.ret u), ⟨v, H2, sameOs, bare2, un, told2, rel, isT⟩ =>
    have isT : v = .bl true := isT
    rw [isT] at rel
    obtain rfl : u = Value.bool true := rel
    refine ⟨rfl, OldK.of_keep ?_, sameOs, bare2⟩
    intro b o got
    by_cases z : H b = none
    · exact un.keep b o got z (fun mem => by cases (show b ∈ ([] : List Addr) from mem)) (by simp)
    · rcases few b with n | ⟨ob, xs, fz⟩
      · exact (z n).elim
      · have before := (told b _ fz).1
        have behind := (told2 b _ (un.frzs b ob _ fz)).1
        rw [got] at before
        cases before
        exact behind
theorem law_run (inK : K.In s1.heap) (nsM : s1.heap.Ns mainGlobals mg) (nsB : s1.heap.Ns builtinsNs mb) (bltn : ∀ y : Str, y ≠ "__name__" → mb y = bootBuiltins y) (lim : s1.heap.NoLimit) (g0 : s1.gens = #[])
    (obj : s1.heap.get? a = some { cls := .type "list", data := .seq us.toArray }) (are : IntsAre us ns) (short : ns.length ≤ sizeLine) (room : Room k callerA) (F : ∀ base : Heap, K.In base → base.Ns mainGlobals mg → FnG P w K mg base k fa fd [x] sp)
    (bnd : ∀ (s : Shared) (u : Value), BindsTo s fd ⟨[u], []⟩ [(x, u)]) (promise : ∀ H : Hp, Only H → SqL K H a (ns.map V.int) → sp [.ref a] H (fun v _ => v = .bl true) E0) :
    codeAny (model P w) callerA (.call (.ref fa) ⟨[.ref a], []⟩) (fun r s' => r = .ok (.ret (.bool true)) ∧ OldK s1.heap s'.heap ∧ s'.os = s1.os ∧ AllBare s'.gens) s1 := by
  have n := are.length
  have rel := vals_ints are
  by_cases wr : ∃ o, K.lookup a = some o
  · obtain ⟨o, wr⟩ := wr
    have got := inK a o wr
    rw [obj] at got
    cases got
    have few : Only (fun _ => none) := fun _ => Or.inl rfl
    refine law_at inK nsM nsB bltn lim g0 obj room F bnd (fun _ => none) few (promise _ few (Or.inr ⟨_, us.toArray, _, wr, rfl, rfl, rfl, by rw [List.size_toArray, n]; exact short, by simpa using rel⟩)) ?_ (fun b z => (z rfl).elim) (fun z => (z rfl).elim)
    intro b u z
    cases (show (none : Option HO) = some u from z)
  · have free : K.lookup a = none := by
      cases q : K.lookup a with
      | none => rfl
      | some o => exact (wr ⟨o, q⟩).elim
    let fz : HO := .frz { cls := .type "list", data := .seq us.toArray } (.lst (ns.map V.int))
    let H : Hp := fun b => if b = a then some fz else none
    have here : H a = some fz := if_pos rfl
    have there : ∀ b, b ≠ a → H b = none := fun b ne => if_neg ne
    have few : Only H := fun b => by
      by_cases e : b = a
      · subst e; exact Or.inr ⟨_, _, here⟩
      · exact Or.inl (there b e)
    refine law_at inK nsM nsB bltn lim g0 obj room F bnd H few (promise H few (Or.inl (Or.inr ⟨_, here⟩))) ?_ ?_ fun _ => free
    · intro b u z
      by_cases e : b = a
      · subst e
        rw [here] at z
        cases z
        exact ⟨obj, by rw [List.length_map]; exact short, us, _, rel, obj⟩
      · rw [there b e] at z
        cases z
    · intro b z
      by_cases e : b = a
      · exact e
      · exact (z (there b e)).elim
end
theorem walkG {l : PySem.W.OpenLaw} {n k : Nat} {q : Program} {loose : List Str} {XP : (Str → Option Value) → Heap → Prop} {YP : World → Heap → Prop} {d : DefRec} {K : Params → Frg} {sp : World → Sp} {x : Str} (hn : l.most = some n) (hn2 : n ≤ sizeLine) (hdf : d.params.defaults = []) (room : Room k callerA)
    (inK : ∀ (w : World) (h : Heap), YP w h → (K w.params).In h)
    (F : ∀ (w : World) (mg : Str → Option Value) (fa : Addr) (h : Heap), (K w.params).In h → h.Ns mainGlobals mg → mg d.name = some (.ref fa) → ∃ fd : FuncData, (∀ (s : Shared) (u : Value), BindsTo s fd ⟨[u], []⟩ [(x, u)]) ∧ ∀ base : Heap, (K w.params).In base → base.Ns mainGlobals mg → FnG l.prog w (K w.params) mg base k fa fd [x] (sp w))
    (promise : ∀ (w : World) (H : Hp) (a : Addr) (ns : List Int), ns.length ≤ n → Only H → SqL (K w.params) H a (ns.map V.int) → sp w [.ref a] H (fun v _ => v = .bl true) E0) : PySem.W.WalkO q loose XP YP l.row.toRowW d [] (fun f vs => PySem.call f vs) :=
  Att.attach_call hn hdf fun w s0 s1 mg mb fa o pm cd doc a us ns G Y ho hd hcd isLaw obj are short gens => by
    have written := inK w _ Y
    obtain ⟨fd, bnd, made⟩ := F w mg fa _ written G.T.g isLaw
    exact law_run written G.T.g G.T.b G.T.builtins G.T.nolimit gens obj are (Nat.le_trans short hn2) room made bnd fun H few seen => promise w H a ns short few seen
end MV
set_option Elab.async false
set_option linter.all false
set_option maxRecDepth 100000
set_option maxHeartbeats 1000000
/-! Readings by mirrors: several stores at once, texts of things, more methods. -/
namespace MV
open PySem PySem.Spec PyProof.Rows L2
section
variable {X : Cx} {K : Frg} {a b : Expr} {fa fb : Sx} {pos : Pos} {A A' A2 : Wd} {H H' H2 : Hp} {S S' : Sto} {Q : VK} {ρ : Envi} {σ : L2.St} {D : Ends}
/-! ### arguments of which some become cells -/
def PostAC (K : Frg) (A : Wd) (H : Hp) (Q : List V → Hp → Prop) : Res (List Val) → Prop
  | .ok vs S => ∀ A' xs H', Ext A H A' H' → Wf K A' S H' → RvL K A' H' xs vs → Q xs H'
  | .exc _ _ => False
  | .no => False
def tArC (K : Frg) (f : SA) : TA := fun σ H Q => At K σ H fun A ρ S => PostAC K A H Q (f ρ S)
theorem PostAC.shift {Q : List V → Hp → Prop} {r : Res (List Val)} (h : PostAC K A H Q r) (e : Ext A H A2 H2) : PostAC K A2 H2 Q r := by
  cases r with
  | ok v S1 => exact fun A' v H' e' w' r => h A' v H' (e.trans e') w' r
  | exc _ _ => exact h
  | no => exact h
theorem PostAC.seq {β : Type} {P : Res β → Prop} {Q : List V → Hp → Prop} {r : Res (List Val)} {g : List Val → Sto → Res β} (h : P (r.bind g)) (h0 : P .no → False) (h1 : ∀ e S, P (.exc e S) → False)
    (k : ∀ v S1 x A1 H1, Ext A H A1 H1 → Wf K A1 S1 H1 → RvL K A1 H1 x v → P (g v S1) → Q x H1) : PostAC K A H Q r := by
  cases r with
  | ok v S1 => exact fun A1 x H1 e w r => k v S1 x A1 H1 e w r h
  | exc e S => exact (h1 _ _ h).elim
  | no => exact (h0 h).elim
theorem aNC : PA X [] (tArC X.K aNil) := PAi pa_nil fun σ H Q ⟨A, S, ρ, w, env, p⟩ => p A [] H .refl w .nil
section
variable {e : Expr} {es : List Expr} {f : Sx} {g : SA}
theorem aVC (he : PE X e (tE X.K f)) (hr : PA X es (tArC X.K g)) (hs : starEach (e :: es) X.env = (false, eval e X.env) :: starEach es X.env := by rfl) : PA X (e :: es) (tArC X.K (aCons f g)) :=
  PAi (pa_cons he hr hs) fun σ H Q ⟨A, S, ρ, w, env, p⟩ => at_seq (P := PostAC X.K A H Q) w env p (fun h => h) (fun _ _ h => h) fun v S1 x H1 e1 w1 r1 p1 =>
    ⟨A, S1, ρ, w1, env.mono e1, PostAC.seq (P := PostAC X.K A H Q) p1 (fun h => h) (fun _ _ h => h) fun vs S2 xs A2 H2 e2 w2 r2 p2 => p2 _ _ H2 (e1.trans e2) w2 (.cons (r1.mono e2) r2)⟩
def aCell (f : Sx) (g : SA) : SA := fun ρ S => (f ρ S).bind fun v S1 => match v with
  | .f k => (g ρ (S1 ++ [k])).bind fun vs S2 => .ok (.c S1.length :: vs) S2
  | .g cs j => (g ρ (S1 ++ cs)).bind fun vs S2 => .ok (.c (S1.length + j) :: vs) S2
  | _ => .no
theorem aCC (he : PE X e (tE X.K f)) (hr : PA X es (tArC X.K g)) (hs : starEach (e :: es) X.env = (false, eval e X.env) :: starEach es X.env := by rfl) : PA X (e :: es) (tArC X.K (aCell f g)) :=
  PAi (pa_cons he hr hs) fun σ H Q ⟨A, S, ρ, w, env, p⟩ => by
    refine ⟨A, S, ρ, w, env, ?_⟩
    show Post X.K A H _ (f ρ S)
    dsimp only [aCell] at p
    cases q : f ρ S with
    | no => rw [q] at p; exact p
    | exc e S1 => rw [q] at p; exact p
    | ok v S1 =>
      rw [q] at p
      cases v with
      | d x => exact p.elim
      | c n => exact p.elim
      | z ds => exact p.elim
      | x => exact p.elim
      | g cs j =>
        intro as a H' e w1 hn hl hj
        have e2 : Ext A H (A.pushs as) H' := e.grows (K := X.K) hn
        refine ⟨A.pushs as, S1 ++ cs, ρ, w1, env.mono e2, PostAC.seq (P := PostAC X.K A H Q) p (fun h => h) (fun _ _ h => h) fun vs S2 xs A2 H2 e3 w2 r2 p2 => p2 _ _ H2 (e2.trans e3) w2 (.cons ⟨a, ?_, rfl⟩ r2)⟩
        refine e3.at_ ?_
        have l := w1.len
        simp [Wd.pushs] at l
        show (A.A ++ as)[S1.length + j]? = some a
        rw [List.getElem?_append_right (by omega)]
        rw [show S1.length + j - A.A.length = j by omega]; exact hj
      | f k =>
        intro a H' e w1 hn
        have e2 : Ext A H (A.push a) H' := e.grow hn
        refine ⟨A.push a, S1 ++ [k], ρ, w1, env.mono e2, PostAC.seq (P := PostAC X.K A H Q) p (fun h => h) (fun _ _ h => h) fun vs S2 xs A2 H2 e3 w2 r2 p2 => p2 _ _ H2 (e2.trans e3) w2 (.cons ⟨a, ?_, rfl⟩ r2)⟩
        refine e3.at_ ?_
        show (A.A ++ [a])[S1.length]? = some a
        rw [← w1.drop1.1.len]; simp
end
/-! ### a, b, .. = x, y, .. by a tuple -/
def setAll : Envi → List Nat → List Val → Envi
  | ρ, i :: is, v :: vs => setAll (ρ.set i (some v)) is vs
  | ρ, _, _ => ρ
def setSt : L2.St → List Nat → List V → L2.St
  | σ, i :: is, v :: vs => setSt (σ.set i (some v)) is vs
  | σ, _, _ => σ
theorem REnv.setAll : ∀ {is : List Nat} {ρ : Envi} {σ : L2.St} {xs : List V} {vs : List Val}, REnv K A H ρ σ → RvL K A H xs vs → REnv K A H (setAll ρ is vs) (setSt σ is xs)
  | [], _, _, _, _, e, _ => e
  | _ :: _, _, _, _, _, e, .nil => e
  | i :: is, _, _, _, _, e, .cons r rs => REnv.setAll (is := is) (e.set r) rs
def gNames (is : List Nat) : TGs := fun vs σ H Q => vs.length = is.length ∧ Q (setSt σ is vs) H
theorem gnN : PGs X [] (gNames []) := ⟨fun pins s σ H vs us Q I r h => pgs_nil.run pins s σ H vs us Q I r (by
  obtain ⟨e, q⟩ := h
  cases vs with
  | nil => exact ⟨rfl, q⟩
  | cons _ _ => cases e)⟩
theorem gnC {i : Nat} {is : List Nat} {x : Str} {es : List Expr} (hN : X.N.Nodup) (hi : X.N[i]? = some x) (hx : Loc X.env.scope x) (hr : PGs X es (gNames is)) (hf : X.fn x = true ∨ X.env.scope.names.lookup x = some .local := by first | exact .inl rfl | exact .inr rfl | assumption)
    (hs : (assignEach (.Name x pos :: es) X.env).map (·.2) = assign (.Name x pos) X.env :: (assignEach es X.env).map (·.2) := by rfl) : PGs X (.Name x pos :: es) (gNames (i :: is)) :=
  ⟨fun pins s σ H vs us Q I r h => (pgs_cons (pg_name hN hi hx hf) hr hs).run pins s σ H vs us Q I r (by
    obtain ⟨e, q⟩ := h
    cases vs with
    | nil => cases e
    | cons v vr => exact ⟨v, vr, rfl, by simpa using e, q⟩)⟩
def sMul (is : List Nat) (f : SA) : Ss := fun ρ S => (f ρ S).bind fun vs S1 => if vs.length = is.length ∧ vs.length ≤ 1000 then .ok (.nx (setAll ρ is vs)) S1 else .no
theorem sMulR {is : List Nat} {tes es : List Expr} {f : SA} {kt k2 : Nat} {pt p2 : Pos} (hc : X.calm = true) (ha : PA X es (tArC X.K f)) (hg : PGs X tes (gNames is))
    (hn : (assignEach tes X.env).length = is.length := by rfl) (hst : (assignEach tes X.env).findIdx? (·.1) = none := by rfl)
    (hs : swapsWithSole [.Tuple tes kt pt] (.Tuple es k2 p2) pos.line X.env = pure false := by rfl) (hw : swappedStores [.Tuple tes kt pt] (.Tuple es k2 p2) X.env = pure none := by rfl)
    (h1 : (assignEach [.Tuple tes kt pt] X.env).map (·.2) = [assign (.Tuple tes kt pt) X.env] := by rfl) : PS X (.Assign [.Tuple tes kt pt] (.Tuple es k2 p2) pos) (tS X.K (sMul is f)) :=
  PSi (ps_asg (pe_tup ha) (pg_tup hc hg hn hst) hs hw h1) fun D σ H ⟨A, S, ρ, w, env, p⟩ =>
    ⟨A, S, ρ, w, env, PostAC.seq (P := PostS X.K A H D) p (fun h => h) (fun _ _ h => h) fun vs S1 xs A1 H1 e1 w1 r1 p1 => by
      split at p1
      case isFalse => exact p1.elim
      rename_i c
      have hl : xs.length = vs.length := Paired.length r1
      refine ⟨by rw [hl]; exact line1000 c.2, fun q hq => ⟨q, xs, rfl, .inl (.inl upd_same), by rw [hl]; exact c.1, by rw [hl]; exact c.1, ?_⟩⟩
      have e2 := e1.trans (.laid (o := .tup xs) hq)
      exact p1 A1 _ _ e2 (w1.laid hq) (((env.mono e2)).setAll (r1.mono (Ext.laid hq)))⟩
/-! ### a, b, .. = x, y, .. of plain locals -/
theorem sParC (i j : Nat) {x y : Str} {f : SA} {px py pt : Pos} {kt k2 pt2} (hc : X.calm = true) (hN : X.N.Nodup) (hi : X.N[i]? = some x) (hj : X.N[j]? = some y) (hij : i ≠ j)
    (hx : X.env.scope.names.lookup x = some .local) (hy : X.env.scope.names.lookup y = some .local) (ha : PA X [a, b] (tArC X.K f)) (hs : swappedStores [.Tuple [.Name x px, .Name y py] kt pt] (.Tuple [a, b] k2 pt2) X.env = pure (some [x, y]) := by rfl) : PS X (.Assign [.Tuple [.Name x px, .Name y py] kt pt] (.Tuple [a, b] k2 pt2) pos) (tS X.K (sPar i j f)) := PSi (ps_par hc hN hi hj hij hx hy ha hs) fun D σ H ⟨A, S, ρ, w, env, p⟩ =>
  ⟨A, S, ρ, w, env, PostAC.seq (P := PostS X.K A H D) p (fun h => h) (fun _ _ h => h) fun vs S1 xs A1 H1 e1 w1 r1 p1 => by
    split at p1
    · cases r1 with | cons r1 r2 => cases r2 with | cons r2 r3 => cases r3; exact ⟨_, _, rfl, p1 A1 _ H1 e1 w1 (((env.mono e1).set r1).set r2)⟩
    · exact p1.elim⟩
def sPar3 (i j l : Nat) (f : SA) : Ss := fun ρ S => (f ρ S).bind fun vs S1 => match vs with
  | [u, v, w] => .ok (.nx (((ρ.set i (some u)).set j (some v)).set l (some w))) S1
  | _ => .no
theorem sPar3C (i j l : Nat) {x y z : Str} {c : Expr} {f : SA} {px py pz pt : Pos} {kt k2 pt2} (hc : X.calm = true) (hN : X.N.Nodup) (hi : X.N[i]? = some x) (hj : X.N[j]? = some y) (hl : X.N[l]? = some z) (hij : i ≠ j) (hil : i ≠ l) (hjl : j ≠ l)
    (hx : X.env.scope.names.lookup x = some .local) (hy : X.env.scope.names.lookup y = some .local) (hz : X.env.scope.names.lookup z = some .local) (ha : PA X [a, b, c] (tArC X.K f))
    (hs : swappedStores [.Tuple [.Name x px, .Name y py, .Name z pz] kt pt] (.Tuple [a, b, c] k2 pt2) X.env = pure (some [x, y, z]) := by rfl) : PS X (.Assign [.Tuple [.Name x px, .Name y py, .Name z pz] kt pt] (.Tuple [a, b, c] k2 pt2) pos) (tS X.K (sPar3 i j l f)) := PSi (ps_par3 hc hN hi hj hl hij hil hjl hx hy hz ha hs) fun D σ H ⟨A, S, ρ, w, env, p⟩ =>
  ⟨A, S, ρ, w, env, PostAC.seq (P := PostS X.K A H D) p (fun h => h) (fun _ _ h => h) fun vs S1 xs A1 H1 e1 w1 r1 p1 => by
    split at p1
    · cases r1 with | cons r1 r2 => cases r2 with | cons r2 r3 => cases r3 with | cons r3 r4 => cases r4; exact ⟨_, _, _, rfl, p1 A1 _ H1 e1 w1 ((((env.mono e1).set r1).set r2).set r3)⟩
    · exact p1.elim⟩
/-! ### what is never reached -/
theorem eNo (e : Expr) : PE X e (tE X.K fun _ _ => .no) := ⟨fun pins s σ H Q I h => by
  obtain ⟨A, S, ρ, w, env, p⟩ := h
  exact p.elim⟩
theorem sNo (st : Stmt) : PS X st (tS X.K fun _ _ => .no) := ⟨fun pins s σ H D I h => by
  obtain ⟨A, S, ρ, w, env, p⟩ := h
  exact p.elim⟩
/-! ### list.remove of whole numbers -/
def gRemove (v : Val) (vs : List Val) (S : Sto) : Res Val := match cellL S v, vs with
  | some (n, ds), [.d (.int k)] => match intsOf ds with
    | some ns => if k ∈ ns then .ok (.d .none) (S.set n (.lst ((ns.erase k).map .int))) else .no
    | none => .no
  | _, _ => .no
theorem mRemove : MRul X "list.remove" gRemove := by
  intro pins s σ A S H x xs u us v vs Q I wf rv rvs ru rus p
  unfold gRemove at p
  split at p
  · rename_i n ds k hc
    split at p
    · rename_i ns hns
      split at p
      · rename_i hk
        obtain ⟨a, ys, h1, h2, rfl, h3, h4⟩ := cellL_ok wf rv hc
        cases rvs with | cons r1 r2 =>
        cases r2
        have r1 : Rp X.K A.V H _ (.int k) := r1
        cases r1
        have e := intsOf_ok hns
        subst e
        have e2 := h4.ints
        subst e2
        have hlt := List.idxOf_lt_length_of_mem hk
        refine mt_remove pins s σ H _ _ u us Q I ru rus ⟨a, ns, k, ns.idxOf k, rfl, rfl, h3, ?_, ?_, ?_⟩
        · rw [List.getElem?_eq_getElem hlt, List.getElem_idxOf hlt]
        · intro m hm e
          have := List.not_of_lt_findIdx (p := (· == k)) (xs := ns) (i := m) (by simpa [List.idxOf] using hm)
          rw [List.getElem?_eq_getElem (by omega)] at e
          simp at this e
          exact this e
        · rw [← List.erase_eq_eraseIdx_of_idxOf rfl]
          exact p.put wf h1 (RpL.of_ints _) .non
      · exact p.elim
    · exact p.elim
  · exact p.elim
/-! ### texts of things -/
open Classical in
noncomputable def gRepr : List Val → Sto → Res Val
  | [v], S => match asD S v with
    | some d => if d.canLay0 = true ∧ d.showable = true ∧ d.shown.length ≤ sizeLine ∧ d.depth ≤ 64 then .ok (.d (.str d.shown)) S else .no
    | none => .no
  | _, _ => .no
theorem bRepr (hu : X.A.units + 100 < cLine) (gd : X.A.guards = some []) : BRul X (.builtin "repr") gRepr := by
  intro pins s σ A S H xs us vs Q I wf rvs rus p
  unfold gRepr at p
  split at p
  case h_2 => exact p.elim
  rename_i v _
  cases rvs with | cons r1 r2 =>
  cases r2
  split at p
  case h_2 => exact p.elim
  rename_i d hd
  split at p
  case isFalse => exact p.elim
  rename_i c
  obtain ⟨c1, c2, c3, c4⟩ := c
  have dp := asD_dp wf r1 hd c1
  obtain ⟨u, rfl, ru⟩ := vals1 rus
  obtain ⟨as, rd⟩ := Dp.reads I d _ u dp ru
  have fin : ∀ h' t k, (∀ b o, s.heap.get? b = some o → h'.get? b = some o) → EP X pins σ Q (.str d.shown t) { s with heap := h', toks := k } := fun h' t k kp =>
    ⟨.str d.shown, H, I.kept kp, ⟨t, rfl⟩, p _ H .refl wf (.str _)⟩
  have fin0 : EP X pins σ Q (.str d.shown s.toks) { s with toks := s.toks + 1 } := ⟨.str d.shown, H, I.tok _, ⟨_, rfl⟩, p _ H .refl wf (.str _)⟩
  cases d with
  | none => cases rd; simp only [PyData.shown] at fin0; exact PySem.P.repr_of_none fin0
  | bool b => cases rd; simp only [PyData.shown] at fin0; exact PySem.P.repr_of_bool fin0
  | int i =>
    cases rd
    simp only [PyData.shown] at fin0
    exact PySem.P.repr_of_int (by simpa [PyData.showable] using c2) fin0
  | str x =>
    cases rd
    simp only [PyData.shown] at fin0 c3
    exact PySem.P.repr_of_str fin0 c3
  | list ds =>
    cases rd
    all_goals exact repr_of_reads' (by constructor <;> assumption) c2 (fun z => by rw [PyData.hasDict_of_canLay _ c1] at z; cases z) gd (by omega) (fun _ _ h => h) (fun h' t k kp => fin h' t k kp) c3
  | tuple ds =>
    cases rd
    all_goals exact repr_of_reads' (by constructor <;> assumption) c2 (fun z => by rw [PyData.hasDict_of_canLay _ c1] at z; cases z) gd (by omega) (fun _ _ h => h) (fun h' t k kp => fin h' t k kp) c3
  | dict ps => simp [PyData.canLay0] at c1
end
end MV
set_option Elab.async false
set_option linter.all false
set_option maxRecDepth 100000
set_option maxHeartbeats 1000000
/-! dict(zip(s, t)) of two tuples; d.update(a list of pairs). -/
namespace MV
open PySem PySem.Spec PyProof.Rows L2
section
variable {prog : Program} {w : World} {A : Around} {E : Value → Shared → Prop} {s : Shared} {z TI TO T i1 i2 l1 l2 : Addr} {f t1 t2 : Bool} {oT : Obj} {k : Nat} {xs ys : Array Value}
/-- an iterator of a tuple (true) or a list (false), k items on -/
def Crs (t : Bool) (h : Heap) (it l : Addr) (k : Nat) (xs : Array Value) : Prop := match t with
  | true => h.IsTupleIter it l k ∧ h.IsTuple l xs
  | false => h.IsListIter it l k ∧ h.IsList l xs
def Srq (t : Bool) (h : Heap) (l : Addr) (xs : Array Value) : Prop := match t with
  | true => h.IsTuple l xs
  | false => h.IsList l xs
theorem Crs.at2 {t : Bool} {h h' : Heap} {it l : Addr} (c : Crs t h it l k xs) (e1 : ∀ o, h.get? it = some o → h'.get? it = some o) (e2 : ∀ o, h.get? l = some o → h'.get? l = some o) : Crs t h' it l k xs := by
  cases t with
  | true => exact ⟨c.1.at e1, c.2.at e2⟩
  | false => exact ⟨c.1.at e1, c.2.at e2⟩
theorem Crs.ext {t : Bool} {h h' : Heap} {it l a : Addr} (c : Crs t h it l k xs) (e : Heap.ExtBut a h h') (n1 : it ≠ a) (n2 : l ≠ a) : Crs t h' it l k xs := c.at2 (fun o q => e _ o n1 q) fun o q => e _ o n2 q
theorem Crs.itAt {t : Bool} {h : Heap} {it l : Addr} (c : Crs t h it l k xs) : ∃ o, h.get? it = some o := by
  cases t with
  | true => obtain ⟨⟨o, q, _⟩, _⟩ := c; exact ⟨o, q⟩
  | false => obtain ⟨⟨o, q, _⟩, _⟩ := c; exact ⟨o, q⟩
theorem Crs.srcAt {t : Bool} {h : Heap} {it l : Addr} (c : Crs t h it l k xs) : ∃ o, h.get? l = some o := by
  cases t with
  | true => obtain ⟨_, ⟨o, q, _⟩⟩ := c; exact ⟨o, q⟩
  | false => obtain ⟨_, ⟨o, q, _⟩⟩ := c; exact ⟨o, q⟩
theorem crs_item {t : Bool} {it l : Addr} {x : Value} {Q : Value → Shared → Prop} (c : Crs t s.heap it l k xs) (ne : l ≠ it) (hx : xs[k]? = some x) (fin : ∀ h', Crs t h' it l (k + 1) xs → Heap.SameBut it s.heap h' → Q x { s with heap := h' }) :
    wpAny (model prog w) A (Builtin.SmallTypes.nextOf (.ref it)) Q E s := by
  cases t with
  | true => exact RZ.nextOf_tuple_item c.1 c.2 hx fun h' b sb => fin h' ⟨b, c.2.at fun o q => sb.extBut _ o ne q⟩ sb
  | false => exact wpAny_nextOf_list_item c.1 c.2 hx fun h' b sb => fin h' ⟨b, c.2.at fun o q => sb.extBut _ o ne q⟩ sb
theorem crs_stop {t : Bool} {it l : Addr} {Q : Value → Shared → Prop} (hh : A.handled = none) (c : Crs t s.heap it l k xs) (hx : xs[k]? = none)
    (fin : ∀ h' e, Heap.ExtBut it s.heap h' → (∃ o, h'.get? e = some o ∧ o.cls = .type "StopIteration") → E (.ref e) { s with heap := h' }) : wpAny (model prog w) A (Builtin.SmallTypes.nextOf (.ref it)) Q E s := by
  cases t with
  | true => exact RZ.nextOf_tuple_end hh c.1 c.2 hx fin
  | false => exact wpAny_nextOf_list_end hh c.1 c.2 hx fin
theorem crs_make {t : Bool} {l : Addr} {Q : Value → Shared → Prop} (c : Srq t s.heap l xs) (fin : ∀ o, (∀ h : Heap, h.get? s.heap.objs.size = some o → Srq t h l xs → Crs t h s.heap.objs.size l 0 xs) → o.isFreed = false → Q (.ref s.heap.objs.size) { s with heap := s.heap.push o }) :
    wpAny (model prog w) A (pyIter (.ref l)) Q E s := by
  cases t with
  | true => exact wpAny_pyIter_tuple c (fin _ (fun h e q => ⟨⟨_, e, rfl, rfl⟩, q⟩) rfl)
  | false => exact wpAny_pyIter_list c (fin _ (fun h e q => ⟨⟨_, e, rfl, rfl⟩, q⟩) rfl)
theorem Srq.at {t : Bool} {h h' : Heap} {l : Addr} (c : Srq t h l xs) (e : ∀ o, h.get? l = some o → h'.get? l = some o) : Srq t h' l xs := by
  cases t with
  | true => exact Heap.IsTuple.at c e
  | false => exact Heap.IsList.at c e
/-- a zip over two of these whose last pair is still there -/
structure Held (t1 t2 : Bool) (h : Heap) (z TI TO T i1 i2 l1 l2 : Addr) (f : Bool) (oT : Obj) (k : Nat) (xs ys : Array Value) : Prop where
  zip : IsZipHeld h z TI TO T f
  last : h.get? T = some oT
  ins : IsPair h TI (.ref i1) (.ref i2)
  c1 : Crs t1 h i1 l1 k xs
  c2 : Crs t2 h i2 l2 k ys
/-- one with no pair given out -/
structure Loose (t1 t2 : Bool) (h : Heap) (z TI TO i1 i2 l1 l2 : Addr) (a b : Value) (k : Nat) (xs ys : Array Value) : Prop where
  zip : IsZip h z TI TO .none
  ins : IsPair h TI (.ref i1) (.ref i2)
  out : IsPair h TO a b
  c1 : Crs t1 h i1 l1 k xs
  c2 : Crs t2 h i2 l2 k ys
theorem held_next {x y : Value} {Q : Value → Shared → Prop} (D : ZipApart z TI TO i1 i2 l1 l2) (st : Held t1 t2 s.heap z TI TO T i1 i2 l1 l2 f oT k xs ys) (ex : xs[k]? = some x) (ey : ys[k]? = some y)
    (fin : ∀ h', IsZipHeld h' z TI TO T true → Crs t1 h' i1 l1 (k + 1) xs → Crs t2 h' i2 l2 (k + 1) ys → IsPair h' s.heap.objs.size x y → (∀ c o, c ≠ z → c ≠ i1 → c ≠ i2 → s.heap.get? c = some o → h'.get? c = some o) → Q (.ref s.heap.objs.size) { s with heap := h' }) :
    wpAny (model prog w) A (Builtin.«zip.__next__» ⟨[.ref z], []⟩) (fun r s' => ∃ v, r = .done (.ret v) ∧ Q v s') E s := by
  change wpAny _ _ (field (.ref z) 2 >>= _) _ _ _
  apply wpAny_bind
  refine wpAny_field st.zip rfl (x := .bool false) rfl ?_
  change wpAny _ _ (field (.ref z) 3 >>= _) _ _ _
  apply wpAny_bind
  refine wpAny_field st.zip rfl (x := .ref TI) rfl ?_
  apply wpAny_bind
  refine wpAny_seqItems st.ins rfl ?_
  change wpAny _ _ (Builtin.SmallTypes.ownedTupleIsFree (.ref z) >>= _) _ _ _
  apply wpAny_bind
  refine wpAny_tupleHeld_zip st.zip st.last ?_
  intro ha za sa
  have ka : ∀ c o, c ≠ z → s.heap.get? c = some o → ha.get? c = some o := fun c o n q => sa.extBut _ _ n q
  rw [if_neg Bool.false_ne_true]
  apply wpAny_bind
  rw [← Array.forIn_toList]
  simp only [List.forIn_cons, List.forIn_nil]
  apply wpAny_bind
  apply wpAny_bind
  refine wpAny_holding ?_
  change wpAny _ _ (Builtin.SmallTypes.nextOf (.ref i1) >>= _) _ _ _
  apply wpAny_bind
  refine crs_item (s := { s with heap := ha }) (st.c1.ext sa.extBut D.i1z D.l1z) D.l1i1 ex ?_
  intro hb b1 sb
  refine wpAny_pure (wpAny_pure ?_)
  apply wpAny_bind
  apply wpAny_bind
  refine wpAny_holding ?_
  change wpAny _ _ (Builtin.SmallTypes.nextOf (.ref i2) >>= _) _ _ _
  apply wpAny_bind
  refine crs_item (s := { s with heap := hb }) ((st.c2.ext sa.extBut D.i2z D.l2z).ext sb.extBut D.i12.symm D.l2i1) D.l2i2 ey ?_
  intro hc c2 sc
  refine wpAny_pure (wpAny_pure ?_)
  refine wpAny_pure ?_
  change wpAny _ _ (newTuple [x, y] >>= _) _ _ _
  apply wpAny_bind
  refine wpAny_newTuple (wpAny_pure ⟨_, rfl, ?_⟩)
  have size : hc.objs.size = s.heap.objs.size := by rw [sc.1, sb.1, sa.1]
  have kc : ∀ c o, c ≠ z → c ≠ i1 → c ≠ i2 → s.heap.get? c = some o → hc.get? c = some o := fun c o n1 n2 n3 q => sc.extBut _ _ n3 (sb.extBut _ _ n2 (ka c o n1 q))
  have pair : IsPair (hc.push { cls := .type "tuple", data := .seq #[x, y] }) hc.objs.size x y := Heap.get?_push_size _ rfl
  have res := fin (hc.push { cls := .type "tuple", data := .seq #[x, y] }) (Heap.get?_push_of_some _ (sc.extBut _ _ D.i2z.symm (sb.extBut _ _ D.i1z.symm za))) ((b1.ext sc.extBut D.i12 D.l1i2).at2 (fun o q => Heap.get?_push_of_some _ q) fun o q => Heap.get?_push_of_some _ q) (c2.at2 (fun o q => Heap.get?_push_of_some _ q) fun o q => Heap.get?_push_of_some _ q)
  rw [size] at pair
  have res2 := res pair fun c o n1 n2 n3 q => Heap.get?_push_of_some _ (kc c o n1 n2 n3 q)
  rw [← size] at res2
  exact res2
theorem held_stop {Q : PySem.Fin → Shared → Prop} (hh : A.handled = none) (D : ZipApart z TI TO i1 i2 l1 l2) (st : Held t1 t2 s.heap z TI TO T i1 i2 l1 l2 f oT k xs ys) (none1 : xs[k]? = none ∨ ys[k]? = none)
    (fin : ∀ h' e, (∀ c o, c ≠ z → c ≠ i1 → c ≠ i2 → s.heap.get? c = some o → h'.get? c = some o) → (∃ o, h'.get? e = some o ∧ o.cls = .type "StopIteration") → E (.ref e) { s with heap := h' }) : wpAny (model prog w) A (Builtin.«zip.__next__» ⟨[.ref z], []⟩) Q E s := by
  change wpAny _ _ (field (.ref z) 2 >>= _) _ _ _
  apply wpAny_bind
  refine wpAny_field st.zip rfl (x := .bool false) rfl ?_
  change wpAny _ _ (field (.ref z) 3 >>= _) _ _ _
  apply wpAny_bind
  refine wpAny_field st.zip rfl (x := .ref TI) rfl ?_
  apply wpAny_bind
  refine wpAny_seqItems st.ins rfl ?_
  change wpAny _ _ (Builtin.SmallTypes.ownedTupleIsFree (.ref z) >>= _) _ _ _
  apply wpAny_bind
  refine wpAny_tupleHeld_zip st.zip st.last ?_
  intro ha za sa
  have ka : ∀ c o, c ≠ z → s.heap.get? c = some o → ha.get? c = some o := fun c o n q => sa.extBut _ _ n q
  rw [if_neg Bool.false_ne_true]
  apply wpAny_bind
  rw [← Array.forIn_toList]
  simp only [List.forIn_cons, List.forIn_nil]
  apply wpAny_bind
  apply wpAny_bind
  refine wpAny_holding ?_
  change wpAny _ _ (Builtin.SmallTypes.nextOf (.ref i1) >>= _) _ _ _
  apply wpAny_bind
  by_cases q1 : xs[k]? = none
  · refine crs_stop (s := { s with heap := ha }) hh (st.c1.ext sa.extBut D.i1z D.l1z) q1 ?_
    intro hb e keep stop
    exact fin hb e (fun c o n1 n2 _ q => keep _ _ n2 (ka c o n1 q)) stop
  · obtain ⟨x, ex⟩ := Option.ne_none_iff_exists'.mp q1
    refine crs_item (s := { s with heap := ha }) (st.c1.ext sa.extBut D.i1z D.l1z) D.l1i1 ex ?_
    intro hb b1 sb
    refine wpAny_pure (wpAny_pure ?_)
    apply wpAny_bind
    apply wpAny_bind
    refine wpAny_holding ?_
    change wpAny _ _ (Builtin.SmallTypes.nextOf (.ref i2) >>= _) _ _ _
    apply wpAny_bind
    refine crs_stop (s := { s with heap := hb }) hh ((st.c2.ext sa.extBut D.i2z D.l2z).ext sb.extBut D.i12.symm D.l2i1) (none1.resolve_left q1) ?_
    intro hc e keep stop
    exact fin hc e (fun c o n1 n2 n3 q => keep _ _ n3 (sb.extBut _ _ n2 (ka c o n1 q))) stop
theorem held_py {x y : Value} {Q : Option Value → Shared → Prop} (D : ZipApart z TI TO i1 i2 l1 l2) (st : Held t1 t2 s.heap z TI TO T i1 i2 l1 l2 f oT k xs ys) (ex : xs[k]? = some x) (ey : ys[k]? = some y)
    (fin : ∀ h', IsZipHeld h' z TI TO T true → Crs t1 h' i1 l1 (k + 1) xs → Crs t2 h' i2 l2 (k + 1) ys → IsPair h' s.heap.objs.size x y → (∀ c o, c ≠ z → c ≠ i1 → c ≠ i2 → s.heap.get? c = some o → h'.get? c = some o) → Q (some (.ref s.heap.objs.size)) { s with heap := h' }) :
    wpAny (model prog w) A (pyNext (.ref z)) Q E s := by
  have ty : s.TypeIs (.ref z) "zip" := ⟨_, st.zip, rfl⟩
  unfold pyNext
  refine wpAny_bind (wpAny_attempt (wpAny_callSpecial?_slot (name := Str.ofString "__next__") ty PySem.F.slot_zip_next (wpAny_call_entry PySem.F.slot_zip_next ty PySem.F.entry_zip_next (held_next D st ex ey ?_) (PySem.F.args_zip_next_1 _))))
  intro h' a1 a2 a3 a4 a5
  exact wpAny_pure (fin h' a1 a2 a3 a4 a5)
theorem held_py_stop {Q : Option Value → Shared → Prop} (hh : A.handled = none) (D : ZipApart z TI TO i1 i2 l1 l2) (st : Held t1 t2 s.heap z TI TO T i1 i2 l1 l2 f oT k xs ys) (none1 : xs[k]? = none ∨ ys[k]? = none)
    (fin : ∀ h', (∀ c o, c ≠ z → c ≠ i1 → c ≠ i2 → s.heap.get? c = some o → h'.get? c = some o) → Q none { s with heap := h' }) : wpAny (model prog w) A (pyNext (.ref z)) Q E s := by
  have ty : s.TypeIs (.ref z) "zip" := ⟨_, st.zip, rfl⟩
  unfold pyNext
  refine wpAny_bind (wpAny_attempt (wpAny_callSpecial?_slot (name := Str.ofString "__next__") ty PySem.F.slot_zip_next (wpAny_call_entry PySem.F.slot_zip_next ty PySem.F.entry_zip_next (held_stop hh D st none1 ?_) (PySem.F.args_zip_next_1 _))))
  rintro h' e keep ⟨o, got, cls⟩
  exact wpAny_bind (wpAny_isInstance (T := "StopIteration") (b := true) ⟨o, got, cls⟩ isSubtype_stop (wpAny_pure (fin _ keep)))
theorem loose_next {x y a b : Value} {Q : Value → Shared → Prop} (D : ZipApart z TI TO i1 i2 l1 l2) (st : Loose t1 t2 s.heap z TI TO i1 i2 l1 l2 a b k xs ys) (ex : xs[k]? = some x) (ey : ys[k]? = some y)
    (fin : ∀ h', IsZip h' z TI TO (rawInt s.heap.objs.size) → Crs t1 h' i1 l1 (k + 1) xs → Crs t2 h' i2 l2 (k + 1) ys → IsPair h' s.heap.objs.size x y → (∀ c o, c ≠ z → c ≠ TO → c ≠ i1 → c ≠ i2 → s.heap.get? c = some o → h'.get? c = some o) → Q (.ref s.heap.objs.size) { s with heap := h' }) :
    wpAny (model prog w) A (Builtin.«zip.__next__» ⟨[.ref z], []⟩) (fun r s' => ∃ v, r = .done (.ret v) ∧ Q v s') E s := by
  change wpAny _ _ (field (.ref z) 2 >>= _) _ _ _
  apply wpAny_bind
  refine wpAny_field st.zip rfl (x := .bool false) rfl ?_
  change wpAny _ _ (field (.ref z) 3 >>= _) _ _ _
  apply wpAny_bind
  refine wpAny_field st.zip rfl (x := .ref TI) rfl ?_
  apply wpAny_bind
  refine wpAny_seqItems st.ins rfl ?_
  change wpAny _ _ (Builtin.SmallTypes.ownedTupleIsFree (.ref z) >>= _) _ _ _
  apply wpAny_bind
  unfold Builtin.SmallTypes.ownedTupleIsFree
  apply wpAny_bind
  refine wpAny_field st.zip rfl (x := .none) rfl (wpAny_pure ?_)
  simp only [if_true]
  apply wpAny_bind
  refine wpAny_rule ?_
  apply wpAny_bind
  refine wpAny_field st.zip rfl (x := .ref TO) rfl ?_
  apply wpAny_bind
  refine wpAny_setField_rec st.zip (by simp) fun ha (za : IsZip ha z TI TO .ellipsis) sa => ?_
  apply wpAny_bind
  simp only [List.zipIdx_cons, List.zipIdx_nil, List.forIn_cons, List.forIn_nil]
  apply wpAny_bind
  apply wpAny_bind
  refine wpAny_onRaise ?_
  change wpAny _ _ (Builtin.SmallTypes.nextOf (.ref i1) >>= _) _ _ _
  apply wpAny_bind
  refine crs_item (s := { s with heap := ha }) (st.c1.ext sa.extBut D.i1z D.l1z) D.l1i1 ex fun hb b1 sb => wpAny_pure ?_
  have ob : IsPair hb TO a b := sb.extBut _ _ D.TOi1 (sa.extBut _ _ D.TOz st.out)
  apply wpAny_bind
  refine wpAny_seqItems ob rfl ?_
  apply wpAny_bind
  refine wpAny_updateSeq_pair ob fun hc (oc : IsPair hc TO x b) sc => ?_
  apply wpAny_bind
  refine wpAny_letGo (wpAny_pure ?_)
  apply wpAny_bind
  apply wpAny_bind
  refine wpAny_onRaise ?_
  change wpAny _ _ (Builtin.SmallTypes.nextOf (.ref i2) >>= _) _ _ _
  apply wpAny_bind
  refine crs_item (s := { s with heap := hc }) (((st.c2.ext sa.extBut D.i2z D.l2z).ext sb.extBut D.i12.symm D.l2i1).ext sc.extBut D.TOi2.symm D.l2TO) D.l2i2 ey fun hd d2 sd => wpAny_pure ?_
  have od : IsPair hd TO x b := sd.extBut _ _ D.TOi2 oc
  apply wpAny_bind
  refine wpAny_seqItems od rfl ?_
  apply wpAny_bind
  refine wpAny_updateSeq_pair od fun he (oe : IsPair he TO x y) se => ?_
  apply wpAny_bind
  refine wpAny_letGo (wpAny_pure (wpAny_pure ?_))
  apply wpAny_bind
  refine wpAny_seqItems oe rfl ?_
  apply wpAny_bind
  refine wpAny_newTuple ?_
  have size : he.objs.size = s.heap.objs.size := by rw [se.1, sd.1, sc.1, sb.1, sa.1]
  have ze : IsZip he z TI TO .ellipsis := se.extBut _ _ D.TOz.symm (sd.extBut _ _ D.i2z.symm (sc.extBut _ _ D.TOz.symm (sb.extBut _ _ D.i1z.symm za)))
  have ke : ∀ c o, c ≠ z → c ≠ TO → c ≠ i1 → c ≠ i2 → s.heap.get? c = some o → he.get? c = some o := fun c o n1 n2 n3 n4 q => se.extBut _ _ n2 (sd.extBut _ _ n4 (sc.extBut _ _ n2 (sb.extBut _ _ n3 (sa.extBut _ _ n1 q))))
  have e1 : Crs t1 he i1 l1 (k + 1) xs := ((b1.ext sc.extBut D.TOi1.symm D.l1TO).ext sd.extBut D.i12 D.l1i2).ext se.extBut D.TOi1.symm D.l1TO
  have e2 : Crs t2 he i2 l2 (k + 1) ys := d2.ext se.extBut D.TOi2.symm D.l2TO
  have zlt : z < he.objs.size := Heap.lt_size ze
  change wpAny _ _ (Builtin.SmallTypes.ownedTupleHandOut (.ref z) (.ref he.objs.size) >>= _) _ _ _
  apply wpAny_bind
  unfold Builtin.SmallTypes.ownedTupleHandOut
  have zf : IsZip (he.push { cls := .type "tuple", data := .seq #[x, y] }) z TI TO .ellipsis := Heap.get?_push_of_some _ ze
  apply wpAny_bind
  refine wpAny_setField_rec zf (by simp) fun hg (zg : IsZip hg z TI TO (rawInt he.objs.size)) sg => ?_
  refine wpAny_setField_rec zg (by simp) fun hk (zk : IsZip hk z TI TO (rawInt he.objs.size)) sk => ?_
  have up : ∀ c o, c ≠ z → he.get? c = some o → hk.get? c = some o := fun c o n q => sk.extBut _ _ n (sg.extBut _ _ n (Heap.get?_push_of_some _ q))
  have pk : IsPair hk he.objs.size x y := sk.extBut _ _ (Nat.ne_of_gt zlt) (sg.extBut _ _ (Nat.ne_of_gt zlt) (Heap.get?_push_size _ rfl))
  rw [size] at zk pk
  refine wpAny_pure ⟨_, rfl, ?_⟩
  change Q (.ref he.objs.size) _
  rw [size]
  exact fin hk zk (e1.at2 (fun o => up _ o D.i1z) fun o => up _ o D.l1z) (e2.at2 (fun o => up _ o D.i2z) fun o => up _ o D.l2z) pk fun c o n1 n2 n3 n4 q => up c o n1 (ke c o n1 n2 n3 n4 q)
theorem loose_stop {a b : Value} {Q : PySem.Fin → Shared → Prop} (hh : A.handled = none) (D : ZipApart z TI TO i1 i2 l1 l2) (st : Loose t1 t2 s.heap z TI TO i1 i2 l1 l2 a b k xs ys) (none1 : xs[k]? = none ∨ ys[k]? = none)
    (fin : ∀ h' e, (∀ c o, c ≠ z → c ≠ TO → c ≠ i1 → c ≠ i2 → s.heap.get? c = some o → h'.get? c = some o) → (∃ o, h'.get? e = some o ∧ o.cls = .type "StopIteration") → E (.ref e) { s with heap := h' }) : wpAny (model prog w) A (Builtin.«zip.__next__» ⟨[.ref z], []⟩) Q E s := by
  change wpAny _ _ (field (.ref z) 2 >>= _) _ _ _
  apply wpAny_bind
  refine wpAny_field st.zip rfl (x := .bool false) rfl ?_
  change wpAny _ _ (field (.ref z) 3 >>= _) _ _ _
  apply wpAny_bind
  refine wpAny_field st.zip rfl (x := .ref TI) rfl ?_
  apply wpAny_bind
  refine wpAny_seqItems st.ins rfl ?_
  change wpAny _ _ (Builtin.SmallTypes.ownedTupleIsFree (.ref z) >>= _) _ _ _
  apply wpAny_bind
  unfold Builtin.SmallTypes.ownedTupleIsFree
  apply wpAny_bind
  refine wpAny_field st.zip rfl (x := .none) rfl (wpAny_pure ?_)
  simp only [if_true]
  apply wpAny_bind
  refine wpAny_rule ?_
  apply wpAny_bind
  refine wpAny_field st.zip rfl (x := .ref TO) rfl ?_
  apply wpAny_bind
  refine wpAny_setField_rec st.zip (by simp) fun ha (za : IsZip ha z TI TO .ellipsis) sa => ?_
  apply wpAny_bind
  simp only [List.zipIdx_cons, List.zipIdx_nil, List.forIn_cons, List.forIn_nil]
  apply wpAny_bind
  apply wpAny_bind
  refine wpAny_onRaise ?_
  change wpAny _ _ (Builtin.SmallTypes.nextOf (.ref i1) >>= _) _ _ _
  apply wpAny_bind
  by_cases q1 : xs[k]? = none
  · refine crs_stop (s := { s with heap := ha }) hh (st.c1.ext sa.extBut D.i1z D.l1z) q1 fun hb e sb ⟨oe, ge, ce⟩ => ?_
    have zb : IsZip hb z TI TO .ellipsis := sb _ _ D.i1z.symm za
    have ne : e ≠ z := fun x => by subst x; rw [zb] at ge; cases ge; simp at ce
    exact wpAny_setField_rec zb (by simp) fun hc _ sc => fin hc e (fun c o n1 _ n3 _ q => sc.extBut _ _ n1 (sb _ _ n3 (sa.extBut _ _ n1 q))) ⟨oe, sc.extBut _ _ ne ge, ce⟩
  · obtain ⟨x, ex⟩ := Option.ne_none_iff_exists'.mp q1
    refine crs_item (s := { s with heap := ha }) (st.c1.ext sa.extBut D.i1z D.l1z) D.l1i1 ex fun hb b1 sb => wpAny_pure ?_
    have ob : IsPair hb TO a b := sb.extBut _ _ D.TOi1 (sa.extBut _ _ D.TOz st.out)
    apply wpAny_bind
    refine wpAny_seqItems ob rfl ?_
    apply wpAny_bind
    refine wpAny_updateSeq_pair ob fun hc _ sc => ?_
    apply wpAny_bind
    refine wpAny_letGo (wpAny_pure ?_)
    apply wpAny_bind
    apply wpAny_bind
    refine wpAny_onRaise ?_
    change wpAny _ _ (Builtin.SmallTypes.nextOf (.ref i2) >>= _) _ _ _
    apply wpAny_bind
    refine crs_stop (s := { s with heap := hc }) hh (((st.c2.ext sa.extBut D.i2z D.l2z).ext sb.extBut D.i12.symm D.l2i1).ext sc.extBut D.TOi2.symm D.l2TO) (none1.resolve_left q1) fun hd e sd ⟨oe, ge, ce⟩ => ?_
    have zd : IsZip hd z TI TO .ellipsis := sd _ _ D.i2z.symm (sc.extBut _ _ D.TOz.symm (sb.extBut _ _ D.i1z.symm za))
    have ne : e ≠ z := fun x => by subst x; rw [zd] at ge; cases ge; simp at ce
    exact wpAny_setField_rec zd (by simp) fun he _ se => fin he e (fun c o n1 n2 n3 n4 q => se.extBut _ _ n1 (sd _ _ n4 (sc.extBut _ _ n2 (sb.extBut _ _ n3 (sa.extBut _ _ n1 q))))) ⟨oe, se.extBut _ _ ne ge, ce⟩
theorem loose_py {x y a b : Value} {Q : Option Value → Shared → Prop} (D : ZipApart z TI TO i1 i2 l1 l2) (st : Loose t1 t2 s.heap z TI TO i1 i2 l1 l2 a b k xs ys) (ex : xs[k]? = some x) (ey : ys[k]? = some y)
    (fin : ∀ h', IsZip h' z TI TO (rawInt s.heap.objs.size) → Crs t1 h' i1 l1 (k + 1) xs → Crs t2 h' i2 l2 (k + 1) ys → IsPair h' s.heap.objs.size x y → (∀ c o, c ≠ z → c ≠ TO → c ≠ i1 → c ≠ i2 → s.heap.get? c = some o → h'.get? c = some o) → Q (some (.ref s.heap.objs.size)) { s with heap := h' }) :
    wpAny (model prog w) A (pyNext (.ref z)) Q E s := by
  have ty : s.TypeIs (.ref z) "zip" := ⟨_, st.zip, rfl⟩
  unfold pyNext
  refine wpAny_bind (wpAny_attempt (wpAny_callSpecial?_slot (name := Str.ofString "__next__") ty PySem.F.slot_zip_next (wpAny_call_entry PySem.F.slot_zip_next ty PySem.F.entry_zip_next (loose_next D st ex ey ?_) (PySem.F.args_zip_next_1 _))))
  intro h' a1 a2 a3 a4 a5
  exact wpAny_pure (fin h' a1 a2 a3 a4 a5)
theorem loose_py_stop {a b : Value} {Q : Option Value → Shared → Prop} (hh : A.handled = none) (D : ZipApart z TI TO i1 i2 l1 l2) (st : Loose t1 t2 s.heap z TI TO i1 i2 l1 l2 a b k xs ys) (none1 : xs[k]? = none ∨ ys[k]? = none)
    (fin : ∀ h', (∀ c o, c ≠ z → c ≠ TO → c ≠ i1 → c ≠ i2 → s.heap.get? c = some o → h'.get? c = some o) → Q none { s with heap := h' }) : wpAny (model prog w) A (pyNext (.ref z)) Q E s := by
  have ty : s.TypeIs (.ref z) "zip" := ⟨_, st.zip, rfl⟩
  unfold pyNext
  refine wpAny_bind (wpAny_attempt (wpAny_callSpecial?_slot (name := Str.ofString "__next__") ty PySem.F.slot_zip_next (wpAny_call_entry PySem.F.slot_zip_next ty PySem.F.entry_zip_next (loose_stop hh D st none1 ?_) (PySem.F.args_zip_next_1 _))))
  rintro h' e keep ⟨o, got, cls⟩
  exact wpAny_bind (wpAny_isInstance (T := "StopIteration") (b := true) ⟨o, got, cls⟩ isSubtype_stop (wpAny_pure (fin _ keep)))
/-- where the zip stands after i pairs: nothing out yet, or its last pair still out -/
def ZAt (t1 t2 : Bool) (z TI TO i1 i2 l1 l2 d : Addr) (xs ys : Array Value) (i : Nat) (h : Heap) : Prop :=
  IsPair h TI (.ref i1) (.ref i2) ∧ Crs t1 h i1 l1 i xs ∧ Crs t2 h i2 l2 i ys ∧
    ((IsZip h z TI TO .none ∧ ∃ a b, IsPair h TO a b) ∨ ∃ T f oT, IsZipHeld h z TI TO T f ∧ h.get? T = some oT ∧ (T ≠ z ∧ T ≠ i1 ∧ T ≠ i2) ∧ T ≠ d)
theorem ZAt.frame {d : Addr} {h h' : Heap} {i : Nat} (n : z ≠ d ∧ TI ≠ d ∧ TO ≠ d ∧ i1 ≠ d ∧ i2 ≠ d ∧ l1 ≠ d ∧ l2 ≠ d) (st : ZAt t1 t2 z TI TO i1 i2 l1 l2 d xs ys i h) (k : ∀ b o, b ≠ d → h.get? b = some o → h'.get? b = some o) : ZAt t1 t2 z TI TO i1 i2 l1 l2 d xs ys i h' := by
  obtain ⟨n1, n2, n3, n4, n5, n6, n7⟩ := n
  obtain ⟨q1, q2, q3, q6⟩ := st
  refine ⟨k _ _ n2 q1, q2.at2 (fun o => k _ o n4) (fun o => k _ o n6), q3.at2 (fun o => k _ o n5) (fun o => k _ o n7), q6.imp ?_ ?_⟩
  · rintro ⟨w1, a, b, w2⟩
    exact ⟨k _ _ n1 w1, a, b, k _ _ n3 w2⟩
  · rintro ⟨T, f, oT, w1, w2, w3, w4⟩
    exact ⟨T, f, oT, k _ _ n1 w1, k _ _ w4 w2, w3, w4⟩
theorem ZAt.step {d : Addr} {i : Nat} {x y : Value} {Q : Option Value → Shared → Prop} (D : ZipApart z TI TO i1 i2 l1 l2) (st : ZAt t1 t2 z TI TO i1 i2 l1 l2 d xs ys i s.heap) (hd : d < s.heap.objs.size) (ex : xs[i]? = some x) (ey : ys[i]? = some y)
    (fin : ∀ T h', PairAt h' T x y → ZAt t1 t2 z TI TO i1 i2 l1 l2 d xs ys (i + 1) h' → (∀ b o, b ∉ [z, TO, i1, i2] → s.heap.get? b = some o → h'.get? b = some o) → Q (some (.ref T)) { s with heap := h' }) : wpAny (model prog w) A (pyNext (.ref z)) Q E s := by
  obtain ⟨q1, q2, q3, q6⟩ := st
  have big : ∀ {c o}, s.heap.get? c = some o → s.heap.objs.size ≠ c := fun e => Nat.ne_of_gt (Heap.lt_size e)
  have f1 : s.heap.objs.size ≠ i1 := by obtain ⟨_, e⟩ := q2.itAt; exact big e
  have f2 : s.heap.objs.size ≠ i2 := by obtain ⟨_, e⟩ := q3.itAt; exact big e
  rcases q6 with ⟨w1, a, b, w2⟩ | ⟨T, f, oT, w1, w2, ⟨w3, w4, w5⟩, w6⟩
  · refine loose_py D ⟨w1, q1, w2, q2, q3⟩ ex ey ?_
    intro h' c1 c3 c4 c5 kp
    refine fin _ _ (.inl ⟨_, c5, rfl, _, rfl⟩) ⟨kp _ _ D.TIz D.TITO D.TIi1 D.TIi2 q1, c3, c4, .inr ⟨_, false, _, c1, c5, ⟨big w1, f1, f2⟩, Nat.ne_of_gt hd⟩⟩ ?_
    intro c o hc e
    simp only [List.mem_cons, List.not_mem_nil, or_false, not_or] at hc
    exact kp c o hc.1 hc.2.1 hc.2.2.1 hc.2.2.2 e
  · refine held_py D ⟨w1, w2, q1, q2, q3⟩ ex ey ?_
    intro h' c1 c3 c4 c5 kp
    refine fin _ _ (.inl ⟨_, c5, rfl, _, rfl⟩) ⟨kp _ _ D.TIz D.TIi1 D.TIi2 q1, c3, c4, .inr ⟨T, true, oT, c1, kp _ _ w3 w4 w5 w2, ⟨w3, w4, w5⟩, w6⟩⟩ ?_
    intro c o hc e
    simp only [List.mem_cons, List.not_mem_nil, or_false, not_or] at hc
    exact kp c o hc.1 hc.2.2.1 hc.2.2.2 e
theorem ZAt.stop {d : Addr} {i : Nat} {Q : Option Value → Shared → Prop} (hh : A.handled = none) (D : ZipApart z TI TO i1 i2 l1 l2) (st : ZAt t1 t2 z TI TO i1 i2 l1 l2 d xs ys i s.heap) (e : xs[i]? = none ∨ ys[i]? = none)
    (fin : ∀ h', (∀ b o, b ∉ [z, TO, i1, i2] → s.heap.get? b = some o → h'.get? b = some o) → Q none { s with heap := h' }) : wpAny (model prog w) A (pyNext (.ref z)) Q E s := by
  obtain ⟨q1, q2, q3, q6⟩ := st
  rcases q6 with ⟨w1, a, b, w2⟩ | ⟨T, f, oT, w1, w2, ⟨w3, w4, w5⟩, w6⟩
  · refine loose_py_stop hh D ⟨w1, q1, w2, q2, q3⟩ e ?_
    intro h' kp
    refine fin h' ?_
    intro c o hc e
    simp only [List.mem_cons, List.not_mem_nil, or_false, not_or] at hc
    exact kp c o hc.1 hc.2.1 hc.2.2.1 hc.2.2.2 e
  · refine held_py_stop hh D ⟨w1, w2, q1, q2, q3⟩ e ?_
    intro h' kp
    refine fin h' ?_
    intro c o hc e
    simp only [List.mem_cons, List.not_mem_nil, or_false, not_or] at hc
    exact kp c o hc.1 hc.2.2.1 hc.2.2.2 e
def ZNew (t1 t2 : Bool) (z TI TO i1 i2 l1 l2 : Addr) (xs ys : Array Value) (h : Heap) : Prop :=
  (IsZip h z TI TO .none ∧ ∃ a b, IsPair h TO a b) ∧ IsPair h TI (.ref i1) (.ref i2) ∧ Crs t1 h i1 l1 0 xs ∧ Crs t2 h i2 l2 0 ys
theorem ZNew.at {h h' : Heap} (ok : ZNew t1 t2 z TI TO i1 i2 l1 l2 xs ys h) (k : ∀ b o, h.get? b = some o → h'.get? b = some o) : ZNew t1 t2 z TI TO i1 i2 l1 l2 xs ys h' := by
  obtain ⟨⟨w1, a, b, w2⟩, q1, q2, q3⟩ := ok
  exact ⟨⟨k _ _ w1, a, b, k _ _ w2⟩, k _ _ q1, q2.at2 (fun o => k _ o) fun o => k _ o, q3.at2 (fun o => k _ o) fun o => k _ o⟩
theorem zipX_arg (D : ZipApart z TI TO i1 i2 l1 l2) (e : xs.size = ys.size) : PairArg prog w "zip" z [z, TI, TO, i1, i2, l1, l2] [z, TO, i1, i2] xs.size (fun i k v => xs[i]? = some k ∧ ys[i]? = some v) (ZNew t1 t2 z TI TO i1 i2 l1 l2 xs ys) := by
  constructor
  case type => intro s ok; exact ⟨_, ok.1.1, rfl⟩
  case notDict => decide
  case keep => intro h h' ok k; exact ok.at k
  case there =>
    rintro h ⟨⟨w1, a, b, w2⟩, q1, q2, q3⟩ c hc
    simp only [List.mem_cons, List.not_mem_nil, or_false] at hc
    rcases hc with rfl | rfl | rfl | rfl | rfl | rfl | rfl
    · exact ⟨_, w1⟩
    · exact ⟨_, q1⟩
    · exact ⟨_, w2⟩
    · exact q2.itAt
    · exact q3.itAt
    · exact q2.srcAt
    · exact q3.srcAt
  case sub =>
    intro c hc
    simp only [List.mem_cons, List.not_mem_nil, or_false] at hc ⊢
    rcases hc with rfl | rfl | rfl | rfl <;> simp
  case noKeys => intro A s Q E hh ok fin; exact getAttrOr_miss_zip ok.1.1 rfl rfl rfl zip_no_keys (by decide +kernel) hh fin
  case iter =>
    intro A s d Q E hh ok hd off fin
    simp only [List.mem_cons, List.not_mem_nil, or_false, not_or] at off
    obtain ⟨n1, n2, n3, n4, n5, n6, n7⟩ := off
    refine wpAny_pyIter_zip ok.1.1 (fin z [z, TO, i1, i2] (ZAt t1 t2 z TI TO i1 i2 l1 l2 d xs ys) s.heap s.toks ?_ ⟨ok.2.1, ok.2.2.1, ok.2.2.2, .inl ok.1⟩ (fun _ _ e => e) fun _ => .inl)
    constructor
    case off =>
      simp only [List.mem_cons, List.not_mem_nil, or_false, not_or]
      exact ⟨n1, n3, n4, n5⟩
    case frame => intro i h h' st k; exact st.frame ⟨Ne.symm n1, Ne.symm n2, Ne.symm n3, Ne.symm n4, Ne.symm n5, Ne.symm n6, Ne.symm n7⟩ k
    case item =>
      intro i s1 Q1 E1 hi st hd1 fin1
      exact st.step D hd1 (Array.getElem?_eq_getElem hi) (Array.getElem?_eq_getElem (by rw [← e]; exact hi)) fun T h' p st' k => fin1 T _ _ h' s1.toks ⟨Array.getElem?_eq_getElem hi, Array.getElem?_eq_getElem (by rw [← e]; exact hi)⟩ p st' k
    case done =>
      intro s1 Q1 E1 st fin1
      exact st.stop hh D (.inl (Array.getElem?_eq_none (Nat.le_refl _))) fun h' k => fin1 h' s1.toks k
/-- zip(s, t) -/
theorem zip_laid {o1 o2 : Obj} {h h1 h2 h3 h4 h5 : Heap} (e1 : h1 = h.push o1) (e2 : h2 = h1.push o2) (e3 : h3 = h2.push { cls := .type "tuple", data := .seq #[.ref h.objs.size, .ref h1.objs.size] }) (e4 : h4 = h3.push { cls := .type "tuple", data := .seq #[.none, .none] })
    (e5 : h5 = h4.push { cls := .type "zip", data := .fields #[.none, .bool false, .bool false, .ref h2.objs.size, .ref h3.objs.size] }) (f1 : o1.isFreed = false) (f2 : o2.isFreed = false) (c1 : ∀ g : Heap, g.get? h.objs.size = some o1 → Srq t1 g l1 xs → Crs t1 g h.objs.size l1 0 xs) (c2 : ∀ g : Heap, g.get? (h.objs.size + 1) = some o2 → Srq t2 g l2 ys → Crs t2 g (h.objs.size + 1) l2 0 ys)
    (q1 : Srq t1 h l1 xs) (q2 : Srq t2 h l2 ys) : h4.objs.size = h.objs.size + 4 ∧ h5.objs.size = h.objs.size + 5 ∧ (∀ c o, h.get? c = some o → h5.get? c = some o) ∧ ZNew t1 t2 (h.objs.size + 4) (h.objs.size + 2) (h.objs.size + 3) h.objs.size (h.objs.size + 1) l1 l2 xs ys h5 := by
  have z1 : h1.objs.size = h.objs.size + 1 := by rw [e1, Heap.size_push]
  have z2 : h2.objs.size = h.objs.size + 2 := by rw [e2, Heap.size_push, z1]
  have z3 : h3.objs.size = h.objs.size + 3 := by rw [e3, Heap.size_push, z2]
  have z4 : h4.objs.size = h.objs.size + 4 := by rw [e4, Heap.size_push, z3]
  have z5 : h5.objs.size = h.objs.size + 5 := by rw [e5, Heap.size_push, z4]
  have u4 : ∀ c o, h4.get? c = some o → h5.get? c = some o := fun c o q => by rw [e5]; exact Heap.get?_push_of_some _ q
  have u3 : ∀ c o, h3.get? c = some o → h5.get? c = some o := fun c o q => u4 c o (by rw [e4]; exact Heap.get?_push_of_some _ q)
  have u2 : ∀ c o, h2.get? c = some o → h5.get? c = some o := fun c o q => u3 c o (by rw [e3]; exact Heap.get?_push_of_some _ q)
  have u1 : ∀ c o, h1.get? c = some o → h5.get? c = some o := fun c o q => u2 c o (by rw [e2]; exact Heap.get?_push_of_some _ q)
  have u0 : ∀ c o, h.get? c = some o → h5.get? c = some o := fun c o q => u1 c o (by rw [e1]; exact Heap.get?_push_of_some _ q)
  have p5 : h5.get? h4.objs.size = some { cls := .type "zip", data := .fields #[.none, .bool false, .bool false, .ref h2.objs.size, .ref h3.objs.size] } := by rw [e5]; exact Heap.get?_push_size _ rfl
  have p4 : h5.get? h3.objs.size = some { cls := .type "tuple", data := .seq #[.none, .none] } := u4 _ _ (by rw [e4]; exact Heap.get?_push_size _ rfl)
  have p3 : h5.get? h2.objs.size = some { cls := .type "tuple", data := .seq #[.ref h.objs.size, .ref h1.objs.size] } := u3 _ _ (by rw [e3]; exact Heap.get?_push_size _ rfl)
  have p2 : h5.get? h1.objs.size = some o2 := u2 _ _ (by rw [e2]; exact Heap.get?_push_size _ f2)
  have p1 : h5.get? h.objs.size = some o1 := u1 _ _ (by rw [e1]; exact Heap.get?_push_size _ f1)
  rw [z4, z2, z3] at p5
  rw [z3] at p4
  rw [z2, z1] at p3
  rw [z1] at p2
  exact ⟨z4, z5, u0, ⟨p5, _, _, p4⟩, p3, c1 _ p1 (q1.at fun o => u0 _ o), c2 _ p2 (q2.at fun o => u0 _ o)⟩
theorem meets_zipX (t1 t2 : Bool) (l1 l2 : Addr) (xs ys : Array Value) : Meets (Builtin.«zip.__new__» ⟨[.type "zip", .ref l1, .ref l2], []⟩) (fun _ R s => Srq t1 s.heap l1 xs ∧ Srq t2 s.heap l2 ys ∧
      ∀ h', ZNew t1 t2 (s.heap.objs.size + 4) (s.heap.objs.size + 2) (s.heap.objs.size + 3) s.heap.objs.size (s.heap.objs.size + 1) l1 l2 xs ys h' → h'.objs.size = s.heap.objs.size + 5 → (∀ c o, s.heap.get? c = some o → h'.get? c = some o) → R (.ok (.ret (.ref (s.heap.objs.size + 4)))) { s with heap := h' }) :=
  .of_wp fun prog w A R s h => by
    obtain ⟨hp, g, d, tk, os⟩ := s; obtain ⟨q1, q2, fin⟩ := h
    have hsub := sub_zip
    cases t1 with
    | true =>
      have Q1 : Heap.IsTuple (Shared.heap ⟨hp, g, d, tk, os⟩) l1 xs := q1
      cases t2 with
      | true =>
        have Q2 : Heap.IsTuple (Shared.heap ⟨hp.push { cls := .type "tuple_iterator", data := .fields #[.ref l1, .int 0 0] }, g, d, tk, os⟩) l2 ys := Heap.IsTuple.push q2 _
        wp_walk using wpAny_pyIter_tuple Q1, wpAny_pyIter_tuple Q2
        obtain ⟨k1, k2, k3, k4⟩ := zip_laid (o1 := { cls := .type "tuple_iterator", data := .fields #[.ref l1, .int 0 0] }) (o2 := { cls := .type "tuple_iterator", data := .fields #[.ref l2, .int 0 0] }) (t1 := true) (t2 := true) (l1 := l1) (l2 := l2) (xs := xs) (ys := ys) (h := hp) rfl rfl rfl rfl rfl rfl rfl (fun g e q => ⟨⟨_, e, rfl, rfl⟩, q⟩) (fun g e q => ⟨⟨_, e, rfl, rfl⟩, q⟩) q1 q2
        have r := fin _ k4 k2 k3
        dsimp only at r
        rw [← k1] at r
        exact ⟨_, rfl, r⟩
      | false =>
        have Q2 : Heap.IsList (Shared.heap ⟨hp.push { cls := .type "tuple_iterator", data := .fields #[.ref l1, .int 0 0] }, g, d, tk, os⟩) l2 ys := Heap.IsList.push q2 _
        wp_walk using wpAny_pyIter_tuple Q1, wpAny_pyIter_list Q2
        obtain ⟨k1, k2, k3, k4⟩ := zip_laid (o1 := { cls := .type "tuple_iterator", data := .fields #[.ref l1, .int 0 0] }) (o2 := { cls := .type "list_iterator", data := .fields #[.ref l2, .int 0 0] }) (t1 := true) (t2 := false) (l1 := l1) (l2 := l2) (xs := xs) (ys := ys) (h := hp) rfl rfl rfl rfl rfl rfl rfl (fun g e q => ⟨⟨_, e, rfl, rfl⟩, q⟩) (fun g e q => ⟨⟨_, e, rfl, rfl⟩, q⟩) q1 q2
        have r := fin _ k4 k2 k3
        dsimp only at r
        rw [← k1] at r
        exact ⟨_, rfl, r⟩
    | false =>
      have Q1 : Heap.IsList (Shared.heap ⟨hp, g, d, tk, os⟩) l1 xs := q1
      cases t2 with
      | true =>
        have Q2 : Heap.IsTuple (Shared.heap ⟨hp.push { cls := .type "list_iterator", data := .fields #[.ref l1, .int 0 0] }, g, d, tk, os⟩) l2 ys := Heap.IsTuple.push q2 _
        wp_walk using wpAny_pyIter_list Q1, wpAny_pyIter_tuple Q2
        obtain ⟨k1, k2, k3, k4⟩ := zip_laid (o1 := { cls := .type "list_iterator", data := .fields #[.ref l1, .int 0 0] }) (o2 := { cls := .type "tuple_iterator", data := .fields #[.ref l2, .int 0 0] }) (t1 := false) (t2 := true) (l1 := l1) (l2 := l2) (xs := xs) (ys := ys) (h := hp) rfl rfl rfl rfl rfl rfl rfl (fun g e q => ⟨⟨_, e, rfl, rfl⟩, q⟩) (fun g e q => ⟨⟨_, e, rfl, rfl⟩, q⟩) q1 q2
        have r := fin _ k4 k2 k3
        dsimp only at r
        rw [← k1] at r
        exact ⟨_, rfl, r⟩
      | false =>
        have Q2 : Heap.IsList (Shared.heap ⟨hp.push { cls := .type "list_iterator", data := .fields #[.ref l1, .int 0 0] }, g, d, tk, os⟩) l2 ys := Heap.IsList.push q2 _
        wp_walk using wpAny_pyIter_list Q1, wpAny_pyIter_list Q2
        obtain ⟨k1, k2, k3, k4⟩ := zip_laid (o1 := { cls := .type "list_iterator", data := .fields #[.ref l1, .int 0 0] }) (o2 := { cls := .type "list_iterator", data := .fields #[.ref l2, .int 0 0] }) (t1 := false) (t2 := false) (l1 := l1) (l2 := l2) (xs := xs) (ys := ys) (h := hp) rfl rfl rfl rfl rfl rfl rfl (fun g e q => ⟨⟨_, e, rfl, rfl⟩, q⟩) (fun g e q => ⟨⟨_, e, rfl, rfl⟩, q⟩) q1 q2
        have r := fin _ k4 k2 k3
        dsimp only at r
        rw [← k1] at r
        exact ⟨_, rfl, r⟩
theorem call_zipX {Q : Value → Shared → Prop} (q1 : Srq t1 s.heap l1 xs) (q2 : Srq t2 s.heap l2 ys)
    (fin : ∀ h', ZNew t1 t2 (s.heap.objs.size + 4) (s.heap.objs.size + 2) (s.heap.objs.size + 3) s.heap.objs.size (s.heap.objs.size + 1) l1 l2 xs ys h' → h'.objs.size = s.heap.objs.size + 5 → (∀ c o, s.heap.get? c = some o → h'.get? c = some o) → Q (.ref (s.heap.objs.size + 4)) { s with heap := h' }) :
    wpAny (model prog w) A (call (.type "zip") [.ref l1, .ref l2]) Q E s :=
  callType_new PySem.F.called_zip (by decide) (PySem.F.typeCall_zip_2 _ _) (PySem.F.newCall_zip_2 _ _) (fun obj => PySem.F.args_object_init_3 obj _ _) PySem.F.entry_zip_new (meets_zipX t1 t2 l1 l2 xs ys) ⟨q1, q2, fun h' z n k => ⟨⟨_, z.1.1, rfl⟩, fin h' z n k⟩⟩
end
end MV
set_option Elab.async false
set_option linter.all false
set_option maxRecDepth 100000
set_option maxHeartbeats 1000000
/-! Readings by mirrors: dicts made, asked, enlarged; sets; counting on. -/
namespace MV
open PySem PySem.Spec PyProof.Rows L2
section
variable {X : Cx} {K : Frg} {a b : Expr} {fa fb : Sx} {pos : Pos} {A A' A2 : Wd} {H H' H2 : Hp} {S S' : Sto} {Q : VK} {ρ : Envi} {σ : L2.St} {D : Ends}
theorem push_dic {ps : List (PyData × PyData)} {kvs : List (Key × V)} {p : Addr} (w : Wf K A S H2) (hp : H2 p = none) (r : RpD K A.V H2 kvs ps) : Wf K (A.push p) (S ++ [.dic ps]) (upd H2 p (.dK kvs)) :=
  w.new hp ⟨kvs, upd_same, r.mono (Ext.push hp w).kp⟩
theorem Post.dic {ps : List (PyData × PyData)} {kvs : List (Key × V)} {p : Addr} (h : Post K A H Q (.ok (.f (.dic ps)) S)) (e : Ext A H A H2) (w : Wf K A S H2) (hp : H2 p = none) (r : RpD K A.V H2 kvs ps) : Q (.ref p) (upd H2 p (.dK kvs)) :=
  h _ _ (e.trans (.laid hp)) (push_dic w hp r) (e.free w hp)
/-! ### dict(zip(s, t)) -/
def putAll (ps : List (PyData × PyData)) : List (Key × PyData) → List (PyData × PyData)
  | [] => ps
  | (k, y) :: r => putAll (putD ps k y) r
def keysOf : List PyData → Option (List Key)
  | [] => some []
  | x :: xs => match kOf x, keysOf xs with
    | some k, some ks => some (k :: ks)
    | _, _ => none
theorem keysOf_ok {L : List Addr} : ∀ {ds : List PyData} {ks : List Key} {xs : List V}, keysOf ds = some ks → RpL K L H xs ds → xs = ks.map kV
  | [], _, _, h, .nil => by cases h; rfl
  | d :: ds, ks, _, h, .cons r t => by
    unfold keysOf at h
    split at h
    · rename_i k js h1 h2
      cases h
      rw [List.map_cons, keysOf_ok h2 t, Rp.key r h1]
    · cases h
theorem putAll_ok {L : List Addr} : ∀ {ks : List Key} {xs : List V} {ds : List PyData} {kvs : List (Key × V)} {ps : List (PyData × PyData)}, RpD K L H kvs ps → RpL K L H xs ds → RpD K L H (mergeK kvs (ks.zip xs)) (putAll ps (ks.zip ds))
  | [], _, _, _, _, r, _ => by simpa [mergeK, putAll] using r
  | _ :: _, _, _, _, _, r, .nil => by simpa [mergeK, putAll] using r
  | k :: ks, _, _, _, _, r, .cons q t => by
    rw [List.zip_cons_cons, List.zip_cons_cons]
    exact putAll_ok (ks := ks) (r.put q) t
theorem KV_zip : ∀ {ks : List Key} {xs : List V} {us : List Value}, Vals xs us → KV (ks.zip xs) (ks.zip us)
  | [], _, _, _ => by simp; exact .nil
  | _ :: _, _, _, .nil => by simp; exact .nil
  | k :: ks, _, _, .cons r t => by
    rw [List.zip_cons_cons, List.zip_cons_cons]
    exact .cons ⟨rfl, r⟩ (KV_zip t)
def gDictZip : List Val → Sto → Res Val
  | [v, w], S => match seqOf S v, seqOf S w with
    | some q, some r => match keysOf q.2.1 with
      | some ks => if q.2.1.length = r.2.1.length then .ok (.f (.dic (putAll [] (ks.zip r.2.1)))) S else .no
      | none => .no
    | _, _ => .no
  | _, _ => .no
theorem seq_raw {t : Bool} {a : Addr} {xs : List V} {pins : List (Addr × Obj)} {s : Shared} (I : Inv X pins σ H s) (q : SqA X.K t H a xs) : ∃ its, Vals xs its ∧ Srq t s.heap a its.toArray ∧ (∃ o, s.heap.get? a = some o) ∧ xs.length ≤ sizeLine := by
  cases t with
  | true =>
    obtain ⟨its, r, p, z⟩ := I.tuple (show SqT X.K H a xs from q)
    exact ⟨its, r, p, ⟨_, p.choose_spec.1⟩, z⟩
  | false =>
    obtain ⟨its, r, p, z⟩ := I.list (show SqL X.K H a xs from q)
    obtain ⟨o, n, e, _⟩ := id p
    exact ⟨its, r, p.isList, ⟨o, e⟩, z⟩
theorem vals_get : ∀ {ks : List Key} {us : List Value}, Vals (ks.map kV) us → ∀ (i : Nat) (u : Value), us[i]? = some u → ∃ k, ks[i]? = some k ∧ RelV (kV k) u
  | [], _, .nil, i, u, h => by simp at h
  | k :: ks, _, .cons r t, 0, u, h => by simp at h; subst h; exact ⟨k, rfl, r⟩
  | k :: ks, _, .cons r t, i + 1, u, h => by simpa using vals_get t i u (by simpa using h)
theorem eDictZip {e1 e2 : Expr} {f : SA} {p p2 q : Pos} (hc : X.calm = true) (hg : Gl X "dict") (hm : X.mg "dict" = none) (hg2 : Gl X "zip") (hm2 : X.mg "zip" = none) (ha : PA X [e1, e2] (tAr X.K f))
    (hs : starEach [e1, e2] X.env = (false, eval e1 X.env) :: starEach [e2] X.env := by rfl) (hpl : (backTo q (starEach [e2] X.env)).any (·.1) = false := by rfl)
    (hs1 : starEach [.Call (.Name "zip" p2) [e1, e2] [] q] X.env = (false, eval (.Call (.Name "zip" p2) [e1, e2] [] q) X.env) :: starEach [] X.env := by rfl) : PE X (.Call (.Name "dict" p) [.Call (.Name "zip" p2) [e1, e2] [] q] [] pos) (tE X.K (evCall gDictZip f)) := by
  refine ⟨fun pins s σ H Q I h => ?_⟩
  obtain ⟨A, S, ρ, w, env, pq⟩ := h
  refine Call_ (ld_blt I hg hm PyProof.Rows.boot_dict ?_)
  refine PyProof.Rows.callWith_type1 (PyProof.Rows.args_cons ?_ hs1) hs1 rfl
  refine Call_ (ld_blt I hg2 hm2 PyProof.Rows.boot_zip (PyProof.Rows.callWith_type1 (thn (ha.run q pins s σ H (fun xs H1 => ∃ vs S1, Ext A H A H1 ∧ Wf X.K A S1 H1 ∧ RvL X.K A H1 xs vs ∧ Post X.K A H Q (gDictZip vs S1)) I
    ⟨A, S, ρ, w, env, PostA.seq (P := Post X.K A H Q) pq (fun h => h) (fun _ _ h => h) fun vs S1 xs H1 e1 w1 r1 p1 => ⟨vs, S1, e1, w1, r1, p1⟩⟩) fun us s1 ⟨xs, H1, I1, r1, vs, S1, x1, w1, r2, p1⟩ => ?_) hs hpl))
  unfold gDictZip at p1
  split at p1
  case h_2 => exact p1.elim
  rename_i v u
  split at p1
  case h_2 => exact p1.elim
  rename_i qa qb hqa hqb
  split at p1
  case h_2 => exact p1.elim
  rename_i ks hks
  split at p1
  case isFalse => exact p1.elim
  rename_i hl
  obtain ⟨t, ds, g⟩ := qa
  obtain ⟨t', es, g'⟩ := qb
  dsimp only at hks hl p1
  cases r2 with | cons r2 r3 =>
  cases r3 with | cons r3 r4 =>
  cases r4
  obtain ⟨a, ya, rfl, t2, l2⟩ := seq_at hqa w1 r2
  obtain ⟨b, yb, rfl, t3, l3⟩ := seq_at hqb w1 r3
  cases r1 with | cons q1 q2 =>
  cases q2 with | cons q2 q3 =>
  cases q3
  cases q1
  cases q2
  obtain ⟨its, rv, p1', ⟨o1, ho1⟩, z1⟩ := seq_raw I1 l2
  obtain ⟨its2, rv2, p2', ⟨o2, ho2⟩, z2⟩ := seq_raw I1 l3
  have ek := keysOf_ok hks t2
  subst ek
  have n1 : its.length = ks.length := by rw [← rv.length, List.length_map]
  have n2 : its2.length = its.length := by rw [← rv2.length, t3.length, ← hl, ← t2.length, rv.length]
  refine call_zipX p1' p2' fun h' hz hsz hk => PyProof.Rows.args_nil ?_
  have I2 : Inv X pins σ H1 { s1 with heap := h' } := I1.kept (t' := s1.toks) hk
  have arg := zipX_arg (prog := X.prog) (w := X.w) (t1 := t) (t2 := t') (PySem.W.ktu_apart s1.heap.objs.size _ _ (Heap.lt_size ho1) (Heap.lt_size ho2)) (xs := its.toArray) (ys := its2.toArray) (by simp [n2])
  refine PySem.call_dict_pairs (s := { s1 with heap := h' }) (knd := mixKind X.prog X.w) (kvs := ks.zip its2) arg (I2.ok.hd hc) hz ?_ ?_ fun h2 tk hd k2 => ?_
  · refine ⟨by simp [n1, n2], fun i key v ⟨g1, g2⟩ => ?_⟩
    obtain ⟨k, e1, e2⟩ := vals_get rv i key (by simpa using g1)
    refine ⟨k, ?_, kV_is e2⟩
    have g2 : its2[i]? = some v := by simpa using g2
    rw [List.getElem?_zip_eq_some]
    exact ⟨e1, g2⟩
  · rw [List.size_toArray, n1]
    rw [List.length_map] at z1
    exact z1
  · have kall : ∀ b u, s1.heap.get? b = some u → h2.get? b = some u := fun b u e => k2 b u (fun m => by
      have lt := Heap.lt_size e
      simp only [List.mem_cons, List.not_mem_nil, or_false] at m
      rcases m with e' | e' | e' | e' <;> rw [e'] at lt
      · exact Nat.not_lt.mpr (Nat.le_add_right _ _) lt
      · exact Nat.not_lt.mpr (Nat.le_add_right _ _) lt
      · exact Nat.lt_irrefl _ lt
      · exact Nat.not_lt.mpr (Nat.le_add_right _ _) lt) (hk b u e)
    have hm' : (h'.objs.size == sysModules) = false := beq_eq_false_iff_ne.mpr (Nat.ne_of_gt I2.big)
    have rel := KV_zip (ks := ks) rv2
    have z0 : ks.length ≤ sizeLine := by rw [List.length_map] at z1; exact z1
    have hlen : (mergeK [] (ks.zip yb)).length ≤ sizeLine := Nat.le_trans (length_mergeK (ks.zip yb) []) (by
      rw [List.length_nil, Nat.zero_add, rel.length, List.length_zip, n2, n1, Nat.min_self]
      exact z0)
    have big : s1.heap.objs.size ≤ h'.objs.size := by omega
    refine ⟨.ref h'.objs.size, _, I1.laid (t' := tk) (o := .dK (mergeK [] (ks.zip yb))) kall big (show ObjOk X.prog X.w _ _ _ (.dK _) from ⟨hlen, hm', merged [] (ks.zip its2), KV.merge rel .nil, hd⟩), rfl, ?_⟩
    exact p1.dic x1 w1 (I1.hok.fresh big) (putAll_ok .nil t3)
/-! ### {k: v, ..} -/
abbrev SD := Envi → Sto → Res (List (Key × PyData))
def VD (K : Frg) (L : List Addr) (H : Hp) : List (Key × V) → List (Key × PyData) → Prop := Paired fun p q => p.1 = q.1 ∧ Rp K L H p.2 q.2
theorem VD.put {L : List Addr} : ∀ {kvs : List (Key × V)} {qs : List (Key × PyData)} {lvs : List (Key × V)} {ps : List (PyData × PyData)}, VD K L H kvs qs → RpD K L H lvs ps → RpD K L H (mergeK lvs kvs) (putAll ps qs)
  | _, _, _, _, .nil, r => by simpa [mergeK, putAll] using r
  | (k, v) :: kvs, (j, y) :: qs, _, _, .cons ⟨e, q⟩ t, r => by
    have e : k = j := e
    subst e
    exact VD.put (kvs := kvs) (qs := qs) t (r.put q)
theorem VD.mono {L L' : List Addr} {kvs : List (Key × V)} {qs : List (Key × PyData)} (k : Kp L H L' H') (r : VD K L H kvs qs) : VD K L' H' kvs qs := Paired.mapP r fun _ _ h => ⟨h.1, h.2.mono k⟩
def PostD (K : Frg) (A : Wd) (H : Hp) (Q : List (V × V) → Hp → Prop) : Res (List (Key × PyData)) → Prop
  | .ok qs S => ∀ kvs H', Ext A H A H' → Wf K A S H' → VD K A.V H' kvs qs → Q (kvs.map fun kv => (kV kv.1, kv.2)) H'
  | .exc _ _ => False
  | .no => False
theorem PostD.seq {β : Type} {P : Res β → Prop} {Q : List (V × V) → Hp → Prop} {r : Res (List (Key × PyData))} {g : List (Key × PyData) → Sto → Res β} (h : P (r.bind g)) (h0 : P .no → False) (h1 : ∀ e S, P (.exc e S) → False)
    (k : ∀ qs S1 kvs H1, Ext A H A H1 → Wf K A S1 H1 → VD K A.V H1 kvs qs → P (g qs S1) → Q (kvs.map fun kv => (kV kv.1, kv.2)) H1) : PostD K A H Q r := by
  cases r with
  | ok v S1 => exact fun x H1 e w r => k v S1 x H1 e w r h
  | exc e S => exact (h1 _ _ h).elim
  | no => exact (h0 h).elim
def tD (K : Frg) (f : SD) : L2.St → Hp → (List (V × V) → Hp → Prop) → Prop := fun σ H Q => At K σ H fun A ρ S => PostD K A H Q (f ρ S)
def PD (X : Cx) (pos : Pos) (keys : List (Option Expr)) (values : List Expr) (f : SD) : Prop := ∃ trs, PPs X pos keys values trs ∧ ∀ σ H Q, tD X.K f σ H Q → tPairs trs σ H Q
def dNil : SD := fun _ S => .ok [] S
def dCons (fk fv : Sx) (g : SD) : SD := fun ρ S => (fk ρ S).bind fun v S1 => (fv ρ S1).bind fun w S2 => (g ρ S2).bind fun r S3 => match v.th, w.th with
  | .d x, .d y => match kOf x with
    | some k => .ok ((k, y) :: r) S3
    | none => .no
  | _, _ => .no
theorem ddN : PD X pos [] [] dNil := ⟨[], pps_nil, fun σ H Q ⟨A, S, ρ, w, env, p⟩ => p [] H .refl w .nil⟩
theorem ddC {k v : Expr} {ks : List (Option Expr)} {vs : List Expr} {fk fv : Sx} {g : SD} (hk : PE X k (tE X.K fk)) (hv : PE X v (tE X.K fv)) (hr : PD X pos ks vs g) : PD X pos (some k :: ks) (v :: vs) (dCons fk fv g) := by
  obtain ⟨trs, h1, h2⟩ := hr
  refine ⟨_, pps_cons hk hv h1, fun σ H Q ⟨A, S, ρ, w, env, p⟩ => ?_⟩
  refine at_seq (P := PostD X.K A H Q) w env p (fun h => h) (fun _ _ h => h) fun x S1 xv H1 e1 w1 r1 p1 => ?_
  refine at_seq (P := PostD X.K A H Q) w1 (env.mono e1) p1 (fun h => h) (fun _ _ h => h) fun y S2 yv H2 e2 w2 r2 p2 => ?_
  refine h2 _ _ _ ⟨A, S2, ρ, w2, (env.mono e1).mono e2, PostD.seq (P := PostD X.K A H Q) p2 (fun h => h) (fun _ _ h => h) fun qs S3 kvs H3 e3 w3 r3 p3 => ?_⟩
  split at p3
  case h_2 => exact p3.elim
  rename_i a b ha hb
  split at p3
  case h_2 => exact p3.elim
  rename_i k' hk'
  rw [ha] at r1
  rw [hb] at r2
  have r1 : Rp X.K A.V H1 xv a := r1
  have r2 : Rp X.K A.V H2 yv b := r2
  rw [Rp.key r1 hk']
  exact p3 ((k', yv) :: kvs) H3 ((e1.trans e2).trans e3) w3 (.cons ⟨rfl, r2.mono e3.kp⟩ r3)
def evDic (f : SD) : Sx := fun ρ S => (f ρ S).bind fun qs S1 => if qs.length ≤ 15 then .ok (.f (.dic (putAll [] qs))) S1 else .no
theorem eDic {keys : List (Option Expr)} {values : List Expr} {f : SD} (h : PD X pos keys values f) (hall : keys.all (·.isSome) = true := by rfl) (hl : keys.length = values.length := by rfl) (h0 : keys ≠ [] := by exact List.cons_ne_nil _ _)
    (h15 : keys.length ≤ 15 := by decide) : PE X (.Dict keys values pos) (tE X.K (evDic f)) := by
  obtain ⟨trs, h1, h2⟩ := h
  refine PEi (pe_disp h1 hall hl h0 h15) fun σ H Q ⟨A, S, ρ, w, env, p⟩ => fun q hq => ?_
  obtain ⟨wP, kP⟩ := w.protNew (u := .dK []) trivial hq
  refine h2 _ _ _ ⟨A.prot q, S, ρ, wP, env.kx kP, ?_⟩
  dsimp only [evDic] at p
  show PostD X.K (A.prot q) _ _ (f ρ S)
  cases hf : f ρ S with
  | no => rw [hf] at p; exact p
  | exc e S1 => rw [hf] at p; exact p
  | ok qs S1 =>
    rw [hf] at p
    have p : Post X.K A H Q (if qs.length ≤ 15 then .ok (.f (.dic (putAll [] qs))) S1 else .no) := p
    split at p
    case isFalse => exact p.elim
    rename_i hl15
    intro kvs H2 e2 w2 r2
    have nq : q ∉ (A.prot q).A := (w2.pr q (List.mem_cons_self)).1
    have at2 : H2 q = some (.dK []) := e2.keep q _ upd_same nq
    refine ⟨at2, kvs, rfl, by rw [Paired.length r2]; exact hl15, ?_⟩
    obtain ⟨w3, k3⟩ := w2.protUpd (p := q) (u := .dK (mergeK [] kvs)) trivial (List.mem_cons_self)
    have e : Ext A H A (L2.upd H2 q (.dK (mergeK [] kvs))) := ⟨rfl, ⟨[], by simp⟩, fun _ h => .inl h, fun b o hb nb => by
      rw [upd_ne (ne_of_none hb hq)]
      exact e2.keep b o (by rw [upd_ne (ne_of_none hb hq)]; exact hb) nb⟩
    exact p q _ e (w3.protOut (k := .dic _) ⟨_, upd_same, VD.put (r2.mono k3.2) .nil⟩ fun m => w.off hq (Wd.mem.mpr (.inl m))) hq
def evDic0 : Sx := fun _ S => .ok (.f (.dic [])) S
theorem eDic0 : PE X (.Dict [] [] pos) (tE X.K evDic0) := PEi pe_dnewK fun σ H Q ⟨A, S, ρ, w, env, p⟩ => fun q hq => p.dic .refl w hq .nil
/-! ### d.get(k), d.get(k, x) -/
def gGet (v : Val) (vs : List Val) (S : Sto) : Res Val := match asM S v, vs with
  | some ps, [.d x] => match kOf x with
    | some k => .ok (.d ((look ps k).getD .none)) S
    | none => .no
  | some ps, [.d x, .d y] => match kOf x with
    | some k => .ok (.d ((look ps k).getD y)) S
    | none => .no
  | _, _ => .no
theorem mGet (hu : X.A.units + 100 < cLine) : MRul X "dict.get" gGet := by
  intro pins s σ A S H x xs u us v vs Q I wf rv rvs ru rus p
  unfold gGet at p
  split at p
  case h_3 => exact p.elim
  · rename_i ps y hps
    split at p
    case h_2 => exact p.elim
    rename_i k hk
    cases rvs with | cons r1 r2 =>
    cases r2
    obtain ⟨a, kvs, rfl, h1, h2⟩ := asM_ok wf rv hps
    have r1 : Rp X.K A.V H _ y := r1
    have e := Rp.key r1 hk
    subst e
    cases ru
    obtain ⟨u, rfl, ru⟩ := vals1 rus
    refine d_get1 (A := X.A) (o := valV kvs k) (by omega) I (DGet.k h1) ru fun w' s' I' rw' => ⟨_, H, I', rw', ?_⟩
    rcases look_ok (k := k) h2 with ⟨g1, g2⟩ | ⟨d, z, g1, g2, g3⟩
    · rw [g1] at p; rw [g2]; exact p _ H .refl wf .non
    · rw [g1] at p; rw [g2]; exact p _ H .refl wf g3
  · rename_i ps y z hps
    split at p
    case h_2 => exact p.elim
    rename_i k hk
    cases rvs with | cons r1 r2 =>
    cases r2 with | cons r2 r3 =>
    cases r3
    obtain ⟨a, kvs, rfl, h1, h2⟩ := asM_ok wf rv hps
    have r1 : Rp X.K A.V H _ y := r1
    have r2 : Rp X.K A.V H _ z := r2
    have e := Rp.key r1 hk
    subst e
    cases ru
    cases rus with | cons ru ru2 =>
    cases ru2 with | cons ru2 ru3 =>
    cases ru3
    refine d_get2 (A := X.A) (o := valV kvs k) (by omega) I (DGet.k h1) ru ru2 fun w' s' I' rw' => ⟨_, H, I', rw', ?_⟩
    rcases look_ok (k := k) h2 with ⟨g1, g2⟩ | ⟨d, z', g1, g2, g3⟩
    · rw [g1] at p; rw [g2]; exact p _ H .refl wf r2
    · rw [g1] at p; rw [g2]; exact p _ H .refl wf g3
/-! ### pairs as data -/
def pairsOf : List PyData → Option (List (Key × PyData))
  | [] => some []
  | .tuple [x, y] :: r => match kOf x, pairsOf r with
    | some k, some qs => some ((k, y) :: qs)
    | _, _ => none
  | _ => none
theorem pairsOf_ok : ∀ {ds : List PyData} {qs : List (Key × PyData)} {xs : List V}, pairsOf ds = some qs → RpL K A.V H xs ds → ∃ (ps : List Addr) (kvs : List (Key × V)), xs = ps.map V.ref ∧ Paired (fun p kv => SqT K H p [kV kv.1, kv.2]) ps kvs ∧ VD K A.V H kvs qs
  | [], _, _, h, .nil => by cases h; exact ⟨[], [], rfl, .nil, .nil⟩
  | d :: ds, qs, _, h, .cons r t => by
    unfold pairsOf at h
    split at h
    · rename_i h0; cases h0
    · rename_i x y r' h0
      cases h0
      split at h
      · rename_i k js h1 h2
        cases h
        obtain ⟨ps, kvs, e1, e2, e3⟩ := pairsOf_ok h2 t
        cases r with | tup l q =>
        cases q with | cons q1 q2 =>
        cases q2 with | cons q2 q3 =>
        cases q3
        have e := Rp.key q1 h1
        subst e
        subst e1
        exact ⟨_ :: ps, (k, _) :: kvs, rfl, .cons l.seq e2, .cons ⟨rfl, q2⟩ e3⟩
      · cases h
    · cases h
def gDict : List Val → Sto → Res Val
  | [v], S => match asM S v with
    | some ps => .ok (.f (.dic ps)) S
    | none => match (asL S v).bind pairsOf with
      | some qs => .ok (.f (.dic (putAll [] qs))) S
      | none => .no
  | _, _ => .no
theorem bDict (hc : X.calm = true) : BRul X (.type "dict") gDict := by
  intro pins s σ A S H xs us vs Q I wf rvs rus p
  unfold gDict at p
  split at p
  case h_2 => exact p.elim
  cases rvs with | cons r1 r2 =>
  cases r2
  split at p
  · rename_i ps hps
    obtain ⟨a, kvs, rfl, h1, h2⟩ := asM_ok wf r1 hps
    obtain ⟨u, rfl, ru⟩ := vals1 rus
    cases ru
    exact d_copyOf I (.inl h1) fun q s' hq I' => ⟨.ref q, _, I', rfl, p.dic .refl wf hq h2⟩
  · split at p
    case h_2 => exact p.elim
    rename_i qs hqs
    obtain ⟨ds, h1, h2⟩ := Option.bind_eq_some_iff.mp hqs
    obtain ⟨a, ys, rfl, h3, h4⟩ := asL_ok wf r1 h1
    obtain ⟨ps, kvs, e1, e2, e3⟩ := pairsOf_ok h2 h4
    subst e1
    exact call_dictP hc pins s σ H _ us Q I rus ⟨a, ps, kvs, rfl, SqL.of h3, e2, fun q hq => p.dic .refl wf hq (e3.put .nil)⟩
/-! ### tuple(range(..)), list(range(..)) -/
def rgD (a b : Int) : List PyData := (List.range (b - a).toNat).map fun i => PyData.int (a + (i : Nat))
theorem rgV_rp {L : List Addr} (a b : Int) : RpL K L H (rgV a b) (rgD a b) := by
  unfold rgV rgD
  generalize List.range (b - a).toNat = l
  induction l with
  | nil => exact .nil
  | cons i l ih => exact .cons (.int _) ih
def rgOk (a b : Int) : Bool := decide (0 ≤ a ∧ 0 ≤ b ∧ a ≤ 1000000 ∧ b ≤ 1000000)
theorem rgOk_ok {a b : Int} (h : rgOk a b = true) : RgOk a b := by
  have := of_decide_eq_true h
  exact RgOk.of_le (by omega) (by omega) (by omega) (by omega)
def evRg (f : SA) (g : Int → Int → Sto → Res Val) : Sx := fun ρ S => (f ρ S).bind fun vs S1 => match vs with
  | [.d (.int b)] => if rgOk 0 b = true then g 0 b S1 else .no
  | [.d (.int a), .d (.int b)] => if rgOk a b = true then g a b S1 else .no
  | _ => .no
def evTupleRange (f : SA) : Sx := evRg f fun a b S => .ok (.d (.tuple (rgD a b))) S
def evListRange (f : SA) : Sx := evRg f fun a b S => .ok (.f (.lst (rgD a b))) S
section
variable {e1 e2 : Expr} {f1 f2 : Sx} {p p2 q : Pos}
theorem rg1_ok {g : Int → Int → Sto → Res Val} {σ : L2.St} {Q : VK} {R : Int → Int → Hp → Prop} (h : tE K (evRg (aCons f1 aNil) g) σ H Q) (k : ∀ A S a b H1, Ext A H A H1 → Wf K A S H1 → RgOk a b → Post K A H Q (g a b S) → R a b H1) : tRg1 (tE K f1) σ H R := by
  obtain ⟨A, S, ρ, w, env, p⟩ := h
  refine at_seq (P := Post K A H Q) w env (p := (show Post K A H Q ((f1 ρ S).bind _) from ?_)) (g := fun v S1 => match ([v.th] : List Val) with
    | [.d (.int b)] => if rgOk 0 b = true then g 0 b S1 else .no
    | [.d (.int a), .d (.int b)] => if rgOk a b = true then g a b S1 else .no
    | _ => .no) (fun h => h) (fun _ _ h => h) fun v S1 x H1 e1 w1 r1 p1 => ?_
  · dsimp only [evRg, aCons, aNil] at p
    cases hf : f1 ρ S with
    | no => rw [hf] at p; exact p
    | exc e S => rw [hf] at p; exact p
    | ok v S1 => rw [hf] at p; exact p
  · split at p1
    · rename_i b hb
      split at p1
      case isFalse => exact p1.elim
      rename_i hok
      have hb : v.th = .d (.int b) := by simpa using hb
      rw [hb] at r1
      exact ⟨b, Rp.int_inv r1, k A S1 0 b H1 e1 w1 (rgOk_ok hok) p1⟩
    · rename_i a b hb
      simp at hb
    · exact p1.elim
theorem eTupleRange1 (hc : X.calm = true) (hg : Gl X "tuple") (hm : X.mg "tuple" = none) (hg2 : Gl X "range") (hm2 : X.mg "range" = none) (h : PE X e1 (tE X.K f1))
    (n1 : starEach [e1] X.env = (false, eval e1 X.env) :: starEach [] X.env := by rfl) (n2 : starEach [.Call (.Name "range" p2) [e1] [] q] X.env = (false, eval (.Call (.Name "range" p2) [e1] [] q) X.env) :: starEach [] X.env := by rfl) :
    PE X (.Call (.Name "tuple" p) [.Call (.Name "range" p2) [e1] [] q] [] pos) (tE X.K (evTupleRange (aCons f1 aNil))) :=
  PEi (pe_tupRg hc hg hm (prg_1 hg2 hm2 h n1) n2) fun σ H Q h => rg1_ok h fun A S a b H1 e1 w1 ok p => ⟨ok, fun _ hq => p.tup e1 w1 hq (rgV_rp _ _)⟩
theorem eListRange1 (hc : X.calm = true) (hg : Gl X "list") (hm : X.mg "list" = none) (hg2 : Gl X "range") (hm2 : X.mg "range" = none) (h : PE X e1 (tE X.K f1))
    (n1 : starEach [e1] X.env = (false, eval e1 X.env) :: starEach [] X.env := by rfl) (n2 : starEach [.Call (.Name "range" p2) [e1] [] q] X.env = (false, eval (.Call (.Name "range" p2) [e1] [] q) X.env) :: starEach [] X.env := by rfl) :
    PE X (.Call (.Name "list" p) [.Call (.Name "range" p2) [e1] [] q] [] pos) (tE X.K (evListRange (aCons f1 aNil))) :=
  PEi (pe_listRg hc hg hm (prg_1 hg2 hm2 h n1) n2) fun σ H Q h => rg1_ok h fun A S a b H1 e1 w1 ok p => ⟨ok, fun _ hq => p.lst e1 w1 hq (rgV_rp _ _)⟩
end
theorem rg2_ok {f1 f2 : Sx} {g : Int → Int → Sto → Res Val} {σ : L2.St} {Q : VK} {R : Int → Int → Hp → Prop} (h : tE K (evRg (aCons f1 (aCons f2 aNil)) g) σ H Q) (k : ∀ A S a b H1, Ext A H A H1 → Wf K A S H1 → RgOk a b → Post K A H Q (g a b S) → R a b H1) : tRg2 (tE K f1) (tE K f2) σ H R := by
  obtain ⟨A, S, ρ, w, env, p⟩ := h
  refine at_seq (P := Post K A H Q) w env (p := (show Post K A H Q ((f1 ρ S).bind _) from ?_)) (g := fun v S1 => (f2 ρ S1).bind fun u S2 => match ([v.th, u.th] : List Val) with
    | [.d (.int b)] => if rgOk 0 b = true then g 0 b S2 else .no
    | [.d (.int a), .d (.int b)] => if rgOk a b = true then g a b S2 else .no
    | _ => .no) (fun h => h) (fun _ _ h => h) fun v S1 x H1 e1 w1 r1 p1 => ?_
  · dsimp only [evRg, aCons, aNil] at p
    cases hf : f1 ρ S with
    | no => rw [hf] at p; exact p
    | exc e S => rw [hf] at p; exact p
    | ok v S1 =>
      rw [hf] at p
      cases hg : f2 ρ S1 with
      | no => simp only [Res.bind, hg] at p ⊢
              exact p
      | exc e S => simp only [Res.bind, hg] at p ⊢
                   exact p
      | ok u S2 => simp only [Res.bind, hg] at p ⊢
                   exact p
  · refine at_seq (P := Post K A H Q) w1 (env.mono e1) p1 (fun h => h) (fun _ _ h => h) fun u S2 y H2 e2 w2 r2 p2 => ?_
    split at p2
    · rename_i b hb
      simp at hb
    · rename_i a b hb
      split at p2
      case isFalse => exact p2.elim
      rename_i hok
      have hb : v.th = .d (.int a) ∧ u.th = .d (.int b) := by simpa using hb
      rw [hb.1] at r1
      rw [hb.2] at r2
      exact ⟨a, b, Rp.int_inv r1, Rp.int_inv r2, k A S2 a b H2 (e1.trans e2) w2 (rgOk_ok hok) p2⟩
    · exact p2.elim
section
variable {e1 e2 : Expr} {f1 f2 : Sx} {p p2 q : Pos}
theorem eTupleRange2 (hc : X.calm = true) (hg : Gl X "tuple") (hm : X.mg "tuple" = none) (hg2 : Gl X "range") (hm2 : X.mg "range" = none) (h : PE X e1 (tE X.K f1)) (h' : PE X e2 (tE X.K f2))
    (n1 : starEach [e1, e2] X.env = (false, eval e1 X.env) :: starEach [e2] X.env := by rfl) (n0 : starEach [e2] X.env = (false, eval e2 X.env) :: starEach [] X.env := by rfl) (np : (backTo q (starEach [e2] X.env)).any (·.1) = false := by rfl)
    (n2 : starEach [.Call (.Name "range" p2) [e1, e2] [] q] X.env = (false, eval (.Call (.Name "range" p2) [e1, e2] [] q) X.env) :: starEach [] X.env := by rfl) :
    PE X (.Call (.Name "tuple" p) [.Call (.Name "range" p2) [e1, e2] [] q] [] pos) (tE X.K (evTupleRange (aCons f1 (aCons f2 aNil)))) :=
  PEi (pe_tupRg hc hg hm (prg_2 hg2 hm2 h h' n1 n0 np) n2) fun σ H Q h => rg2_ok h fun A S a b H1 e1 w1 ok p => ⟨ok, fun _ hq => p.tup e1 w1 hq (rgV_rp _ _)⟩
end
/-! ### list.remove of any datum -/
open Classical in
noncomputable def gRemoveD (v : Val) (vs : List Val) (S : Sto) : Res Val := match cellL S v, vs with
  | some (n, ds), [.d d] => if SeqAt.shaped (.list ds) = true ∧ SeqAt.shaped d = true ∧ PyData.plainAll ds = true ∧ d.plain = true then match SeqAt.dataPlace ds d with
      | some j => .ok (.d .none) (S.set n (.lst (ds.eraseIdx j)))
      | none => .no
    else .no
  | _, _ => .no
theorem mRemoveD (hu : X.A.units + 100 < cLine) : MRul X "list.remove" gRemoveD := by
  intro pins s σ A S H x xs u us v vs Q I wf rv rvs ru rus p
  unfold gRemoveD at p
  split at p
  case h_2 => exact p.elim
  rename_i n ds d hc
  split at p
  case isFalse => exact p.elim
  rename_i c
  obtain ⟨c1, c2, c3, c4⟩ := c
  split at p
  case h_2 => exact p.elim
  rename_i j hj
  obtain ⟨a, ys, h1, h2, rfl, h3, h4⟩ := cellL_ok wf rv hc
  cases rvs with | cons r1 r2 =>
  cases r2
  have r1 : Rp X.K A.V H _ d := r1
  cases ru
  obtain ⟨u, rfl, ru⟩ := vals1 rus
  obtain ⟨z, its, n', rr, hl', ho⟩ := I.lstM h3
  obtain ⟨as, rx⟩ := Dp.reads I d _ u (Rp.dp d _ (SeqAt.canLay_of_shaped c2) r1) ru
  have cl : PyData.canLayAll0 ds = true := by simpa [PyData.canLay0] using SeqAt.canLay_of_shaped c1
  obtain ⟨bs, rs⟩ := Dp.readsAll I ds ys its (RpL.dp ds ys cl h4) rr
  have dd := SeqAt.depth_of_shaped c2
  refine SeqAt.remove_list_data (vs := its.toArray) ⟨_, ho, rfl, n', rfl⟩ (by simpa using rs) rx c3 c4 (by
    have : min (PyData.depthAll ds) d.depth ≤ 64 := Nat.le_trans (Nat.min_le_right _ _) dd
    omega) hj (by rw [List.size_toArray, ← rr.length]; exact z) ?_
  refine ⟨.non, _, I.lset (its' := its.eraseIdx j) (t' := s.toks) h3 ho ?_ (rr.eraseIdx j) ?_, rfl, p.put wf h1 (h4.eraseIdx j) .non⟩
  · show its.toArray.eraseIdxIfInBounds j = (its.eraseIdx j).toArray
    rw [List.eraseIdxIfInBounds_toArray]
  · exact Nat.le_trans (List.length_eraseIdx_le _ _) z
end
end MV
set_option Elab.async false
set_option linter.all false
set_option maxRecDepth 100000
set_option maxHeartbeats 1000000
/-! Readings by mirrors: dicts sorted, merged, told as lists. -/
namespace MV
open PySem PySem.Spec PyProof.Rows L2
section
variable {X : Cx} {K : Frg} {a b : Expr} {fa fb : Sx} {pos : Pos} {A A' A2 : Wd} {H H' H2 : Hp} {S S' : Sto} {Q : VK} {ρ : Envi} {σ : L2.St} {D : Ends}
/-! ### sorted(d), the keys whole numbers -/
theorem rpd_keys {L : List Addr} : ∀ {kvs : List (Key × V)} {ps : List (PyData × PyData)}, RpD K L H kvs ps → ps.map (·.1) = kvs.map fun p => kD p.1
  | _, _, .nil => rfl
  | _, _, .cons _ t => by rw [List.map_cons, List.map_cons, rpd_keys t]
theorem keys_int : ∀ {ks : List Key} {ns : List Int}, ks.map kD = ns.map .int → ks = ns.map Sum.inl
  | [], [], _ => rfl
  | [], _ :: _, h => by cases h
  | _ :: _, [], h => by cases h
  | k :: ks, n :: ns, h => by
    rw [List.map_cons, List.map_cons, List.cons.injEq] at h
    rw [List.map_cons, keys_int h.2]
    cases k with
    | inl i => have e := h.1; unfold kD at e; cases e; rfl
    | inr x => have e := h.1; unfold kD at e; cases e
def gSortedK : List Val → Sto → Res Val
  | [v], S => match (asM S v).bind fun ps => intsOf (ps.map (·.1)) with
    | some ns => if ns.length < 64 then .ok (.f (.lst ((ns.mergeSort fun a b => decide (a ≤ b)).map .int))) S else .no
    | none => .no
  | _, _ => .no
theorem isort_eq {ns ys : List Int} (h1 : ys.Perm ns) (h2 : ys.Pairwise (· ≤ ·)) : ys = ns.mergeSort fun a b => decide (a ≤ b) := by
  refine List.Perm.eq_of_pairwise (le := (· ≤ ·)) (fun a b _ _ h1 h2 => by omega) h2 ?_ (h1.trans (List.mergeSort_perm _ _).symm)
  have h := List.pairwise_mergeSort (le := fun (a b : Int) => decide (a ≤ b)) (fun a b c h1 h2 => by simp at h1 h2 ⊢; omega) (fun a b => by simp; omega) ns
  exact h.imp fun h => by simpa using h
theorem bSortedK (hc : X.calm = true) : BRul X (.builtin "sorted") gSortedK := by
  intro pins s σ A S H xs us vs Q I wf rvs rus p
  unfold gSortedK at p
  split at p
  case h_2 => exact p.elim
  rename_i v _
  cases rvs with | cons r1 r2 =>
  cases r2
  split at p
  case h_2 => exact p.elim
  rename_i ns hns
  split at p
  case isFalse => exact p.elim
  rename_i hl
  obtain ⟨ps, h1, h2⟩ := Option.bind_eq_some_iff.mp hns
  obtain ⟨a, kvs, rfl, h3, h4⟩ := asM_ok wf r1 h1
  have e := intsOf_ok h2
  rw [rpd_keys h4, show (kvs.map fun p => kD p.1) = (kvs.map (·.1)).map kD by simp] at e
  refine call_sortedDI hc pins s σ H _ us Q I rus ⟨a, kvs, ns, rfl, .inl h3, keys_int e, hl, fun ys q hp hw hq => ?_⟩
  rw [isort_eq hp hw]
  exact p.fresh wf hq (RpL.of_ints _)
/-! ### d.update(pairs) -/
/-- the dict cell that v is -/
def cellM (S : Sto) : Val → Option (Nat × List (PyData × PyData))
  | .c n => match S[n]? with
    | some (.dic ds) => some (n, ds)
    | _ => none
  | _ => none
theorem cellM_ok {x : V} {v : Val} {n : Nat} {ds : List (PyData × PyData)} (w : Wf K A S H) (r : Rv K A H x v) (h : cellM S v = some (n, ds)) : ∃ a xs, A.A[n]? = some a ∧ a ∈ A.A ∧ x = .ref a ∧ H a = some (.dK xs) ∧ RpD K A.V H xs ds := by
  cases v with
  | c m =>
    have h : (match S[m]? with
      | some (.dic es) => some (m, es)
      | _ => none) = some (n, ds) := h
    split at h
    · rename_i es q
      cases h
      obtain ⟨a, h1, rfl⟩ := r
      obtain ⟨xs, h2, h3⟩ := w.ok n a _ h1 q
      exact ⟨a, xs, h1, List.mem_of_getElem? h1, rfl, h2, h3⟩
    · cases h
  | _ => cases h
def gUpdate (v : Val) (vs : List Val) (S : Sto) : Res Val := match cellM S v, vs with
  | some (n, ps), [w] => match (asL S w).bind pairsOf with
    | some qs => if ps.length + qs.length ≤ sizeLine then .ok (.d .none) (S.set n (.dic (putAll ps qs))) else .no
    | none => .no
  | _, _ => .no
theorem pairs_raw {pins : List (Addr × Obj)} {s : Shared} (I : Inv X pins σ H s) : ∀ {ps : List Addr} {kvs : List (Key × V)}, Paired (fun p kv => SqT X.K H p [kV kv.1, kv.2]) ps kvs →
    ∃ (prs : List (Key × Value)) (raw : List (Value × Value)), KV kvs prs ∧ prs.length = ps.length ∧ raw.length = ps.length ∧ ∀ (j : Nat) (k v : Value), raw[j]? = some (k, v) → ∃ (b : Addr) (kk : Key), ps[j]? = some b ∧ IsTup s.heap b #[k, v] ∧ prs[j]? = some (kk, v) ∧ keyIs kk k = true
  | [], _, .nil => ⟨[], [], .nil, rfl, rfl, fun j k v e => by simp at e⟩
  | _ :: _, _, .cons (a := p) (b := kv) h t => by
    obtain ⟨prs, raw, r, hl, hl2, hp⟩ := pairs_raw I t
    obtain ⟨its, rv, ht, _⟩ := I.tuple h
    obtain ⟨u, y, ei, ru, ry⟩ := vals2 rv
    subst ei
    refine ⟨(kv.1, y) :: prs, (u, y) :: raw, .cons ⟨rfl, ry⟩ r, by simp [hl], by simp [hl2], fun j k v e => ?_⟩
    cases j with
    | zero =>
      simp at e
      obtain ⟨rfl, rfl⟩ := e
      exact ⟨p, kv.1, rfl, ht, rfl, kV_is (P := X.prog) (w := X.w) ru⟩
    | succ j => exact hp j k v (by simpa using e)
theorem RpD.mono' {A : List Addr} {A' : List Addr} {kvs : List (Key × V)} {d : List (PyData × PyData)} (r : RpD K A H kvs d) (k : Kp A H A' H') : RpD K A' H' kvs d := RpD.mono k r
theorem mUpdate (hc : X.calm = true) : MRul X "dict.update" gUpdate := by
  intro pins s σ A S H x xs u us v vs Q I wf rv rvs ru rus p
  unfold gUpdate at p
  split at p
  case h_2 => exact p.elim
  rename_i n ps w hm
  split at p
  case h_2 => exact p.elim
  rename_i qs hqs
  split at p
  case isFalse => exact p.elim
  rename_i hl
  obtain ⟨a, kvs, ha, ma, rfl, h1, h2⟩ := cellM_ok wf rv hm
  cases rvs with | cons r1 r2 =>
  cases r2
  obtain ⟨ds, g1, g2⟩ := Option.bind_eq_some_iff.mp hqs
  obtain ⟨b, ys, rfl, g3, g4⟩ := asL_ok wf r1 g1
  obtain ⟨as, kvs2, e1, e2, e3⟩ := pairsOf_ok g2 g4
  subst e1
  obtain ⟨u2, rfl, ru2⟩ := vals1 rus
  cases ru
  cases ru2
  obtain ⟨z, hd, vs, rel, dd⟩ := dk_of I.hok h1
  obtain ⟨its, rv2, pl, hz⟩ := I.list (.inl (.inl g3))
  have ei := refs_at rv2
  subst ei
  obtain ⟨prs, raw, rel2, hl2, hl3, hpr⟩ := pairs_raw I e2
  obtain ⟨o, m, ho, hoc, hod, hdat⟩ := pl
  have lp := rel2.length
  have lq : kvs2.length = qs.length := Paired.length e3
  have l1 := rel.length
  have l2 := h2.length
  have off : ∀ T q (o' : Obj), s.heap.get? q = some o' → o'.cls = .type T → T ≠ "dict" → a ≠ q := fun T q o' e1 e2 ne e => by
    subst e
    obtain ⟨o2, h1, h2⟩ := dd.typeIs
    rw [e1] at h1
    cases h1
    rw [e2] at h2
    exact ne (by cases h2; rfl)
  have pq : ∀ j k v, raw[j]? = some (k, v) → as[j]? = some (as.getD j 0) ∧ IsTup s.heap (as.getD j 0) #[k, v] ∧ ∃ kk, prs[j]? = some (kk, v) ∧ keyIs kk k = true := fun j k v e => by
    obtain ⟨q, kk, e1, e2, e3, e4⟩ := hpr j k v e
    have e5 : as.getD j 0 = q := by rw [List.getD_eq_getElem?_getD, e1]; rfl
    rw [e5]
    exact ⟨e1, e2, kk, e3, e4⟩
  refine call_update_pairs (knd := mixKind X.prog X.w) (acc := vs) (kvs := prs) (PairArg.list b (as.map Value.ref).toArray (fun j => as.getD j 0) raw)
    (I.ok.hd hc) ⟨⟨o, m, ho, hoc, hod, hdat⟩, by simp [hl3], fun j k v e => ?_⟩ (fun hm => ?_) ⟨by omega, fun j k v e => ?_⟩ dd (by omega) fun h' tk dd' k => ?_
  · obtain ⟨e1, e2, _⟩ := pq j k v e
    exact ⟨by rw [List.getElem?_toArray, List.getElem?_map, e1]; rfl, .inl e2⟩
  · rcases List.mem_cons.mp hm with e | hm
    · exact off "list" b o ho hoc (by decide) e
    · obtain ⟨j, hj, e⟩ := List.mem_map.mp hm
      have hj := List.mem_range.mp hj
      obtain ⟨_, ⟨o', e1, e2, _⟩, _⟩ := pq j raw[j].1 raw[j].2 (List.getElem?_eq_getElem hj)
      exact off "tuple" _ o' e1 e2 (by decide) e.symm
  · obtain ⟨_, _, kk, e1, e2⟩ := pq j k v e
    exact ⟨kk, e1, e2⟩
  · have hlen : (mergeK kvs kvs2).length ≤ sizeLine := Nat.le_trans (length_mergeK kvs2 kvs) (by omega)
    have he : ∃ q, h'.get? a = some q := let ⟨q, _, _, hq, _⟩ := dd'; ⟨q, hq⟩
    refine ⟨.non, _, I.write (x := a) (e := a) (t' := tk) (by rw [h1]; exact True.intro) (.inl rfl) (fun b' q hb e => k b' q hb (by simp) e) he (dk_new hlen hd (KV.merge rel2 rel) dd'), rfl, ?_⟩
    have ry : Rp X.K A.V H .non .none := .non
    exact p .non _ (.upd ma) (wf.upd ha ⟨_, upd_same, (e3.put h2).mono' (kp_upd ma)⟩) .non
/-! ### list(d), list(d.values()) -/
def gListK : List Val → Sto → Res Val
  | [v], S => match asM S v with
    | some ps => .ok (.f (.lst (ps.map (·.1)))) S
    | none => .no
  | _, _ => .no
theorem rpl_keys {L : List Addr} : ∀ {kvs : List (Key × V)} {ps : List (PyData × PyData)}, RpD K L H kvs ps → RpL K L H (kvs.map fun p => kV p.1) (ps.map (·.1))
  | _, _, .nil => .nil
  | _, _, .cons (k := k) _ t => by
    refine .cons ?_ (rpl_keys t)
    cases k with
    | inl i => exact .int i
    | inr x => exact .str x
theorem rpl_vals {L : List Addr} : ∀ {kvs : List (Key × V)} {ps : List (PyData × PyData)}, RpD K L H kvs ps → RpL K L H (kvs.map (·.2)) (ps.map (·.2))
  | _, _, .nil => .nil
  | _, _, .cons r t => .cons r (rpl_vals t)
theorem bListK (hc : X.calm = true) : BRul X (.type "list") gListK := by
  intro pins s σ A S H xs us vs Q I wf rvs rus p
  unfold gListK at p
  split at p
  case h_2 => exact p.elim
  rename_i v _
  cases rvs with | cons r1 r2 =>
  cases r2
  split at p
  case h_2 => exact p.elim
  rename_i ps hps
  obtain ⟨a, kvs, rfl, h3, h4⟩ := asM_ok wf r1 hps
  exact call_listD hc pins s σ H _ us Q I rus ⟨a, kvs, rfl, .inl h3, fun q hq => p.fresh wf hq (rpl_keys h4)⟩
/-- the view of a dict's values -/
def valsO (p a : Addr) : HO := .ext fun h => h.IsValuesView p a
def tVals (td : TE) : TE := fun σ H Q => td σ H fun x H1 => ∃ a kvs, x = .ref a ∧ H1 a = some (.dK kvs) ∧ ∀ p, H1 p = none → Q (.ref p) (L2.upd H1 p (valsO p a))
theorem pe_vals {e : Expr} {td : TE} {apos cpos : Pos} (he : PE X e td) (hbase : attributeBase e "values" X.env (eval e X.env) = eval e X.env := by rfl) (hline : (apos.endLine == cpos.line) = true := by rfl) : PE X (.Call (.Attribute e "values" apos) [] [] cpos) (tVals td) := by
  refine ⟨fun pins s σ H Q I h => ?_⟩
  refine wpAny_Call_method (T := "dict") (id := "dict.values") hbase rfl hline F.plainAttrs_dict F.slot_dict_values F.type_dict_values (thn (he.run pins s σ H _ I h) fun u s1 ⟨x, H1, I1, rx, d, kvs, ex, hd, q⟩ => ?_)
  subst ex
  obtain rfl : u = Value.ref d := rx
  obtain ⟨z, hs, vs, rel, dd⟩ := dk_of I1.hok hd
  obtain ⟨ep, hm⟩ := dd.dictAt
  refine ⟨dd.typeIs, dd.mapOf.noDict, ?_⟩
  have hv : (s1.heap.push { cls := .type "dict_values", data := .fields #[.ref d] }).IsValuesView s1.heap.objs.size d := ⟨_, Heap.get?_push_size _ rfl, rfl, rfl⟩
  have fin : EP X pins σ Q (.ref s1.heap.objs.size) { s1 with heap := s1.heap.push { cls := .type "dict_values", data := .fields #[.ref d] } } :=
    ⟨.ref s1.heap.objs.size, _, I1.laid (t' := s1.toks) (o := valsO s1.heap.objs.size d) (fun b o e => Heap.get?_push_of_some _ e) (Nat.le_refl _) ⟨hv, ⟨_, Heap.get?_push_size _ rfl⟩, fun h1 h2 w k => let ⟨o, ho, r⟩ := w; ⟨o, k o ho, r⟩⟩, rfl, q _ (I1.hok.fresh (Nat.le_refl _))⟩
  show wpAny _ _ (callWith cpos (.builtin "dict.values") [.ref d] [] []) _ X.xe s1
  exact method_meetsIn F.slot_dict_values F.entry_dict_values rfl (PySem.evalArgs_none ⟨rfl, dd.typeIs, F.args_dict_values_1 _, _, meets_dict_values (mixKind X.prog X.w) d hs, ⟨vs, dd⟩, fin⟩)
theorem cr_listV (hc : X.calm = true) : CallR X (.type "list") (fun xs H Q => ∃ p a kvs, xs = [.ref p] ∧ H p = some (valsO p a) ∧ H a = some (.dK kvs) ∧ ∀ q, H q = none → Q (.ref q) (L2.upd H q (.lst (kvs.map (·.2))))) := by
  intro pins s σ H xs us Q I r h
  obtain ⟨p, a, kvs, e, hp, hk, q⟩ := h
  subst e
  obtain ⟨u, eu, rx⟩ := vals1 r
  subst eu
  obtain rfl : u = Value.ref p := rx
  obtain ⟨z, lo, vs, rk, hd⟩ := dk_of I.hok hk
  obtain ⟨ep, hat⟩ := hd.dictAt
  have hl : kvs.length = vs.length := rk.length
  have hv : s.heap.IsValuesView p a := (show ObjOk X.prog X.w H s.heap p (valsO p a) from I.hok p _ hp).1
  refine PySem.W.kdl_call (PySem.W.kdl_values (knd := mixKind X.prog X.w) (kvs := vs) (ep := ep)) (I.ok.hd hc) ⟨hv, hat⟩ (by rw [← hl]; exact z) fun h' tk acc' c' hkeep hS hacc => ?_
  refine ⟨.ref s.heap.objs.size, L2.upd H s.heap.objs.size (.lst (kvs.map (·.2))), I.laid hkeep (Nat.le_refl _) (show ObjOk X.prog X.w _ _ _ (.lst (kvs.map (·.2))) from ⟨?_, acc'.toList, c', ?_, ?_⟩), rfl, q _ (I.hok.fresh (Nat.le_refl _))⟩
  · rw [List.length_map]; exact z
  · have el : acc'.toList.length = acc'.size := by simp
    refine vals_of_at (by rw [List.length_map, el, hacc.1, hl]) fun j x w h1 h2 => ?_
    obtain ⟨k, hky⟩ := hacc.2 j w (by rw [← Array.getElem?_toList]; exact h2)
    obtain ⟨y, g1, g2⟩ := KV.at' rk hky
    rw [List.getElem?_map, g1] at h1
    cases h1
    exact g2
  · rw [Array.toArray_toList]; exact hS
def evListVals (f : Sx) : Sx := fun ρ S => (f ρ S).bind fun v S1 => match asM S1 v.th with
  | some ps => .ok (.f (.lst (ps.map (·.2)))) S1
  | none => .no
theorem eListVals {e : Expr} {p apos cpos : Pos} (hc : X.calm = true) (hg : Gl X "list") (hm : X.mg "list" = none) (he : PE X e (tE X.K fa)) (hbase : attributeBase e "values" X.env (eval e X.env) = eval e X.env := by rfl) (hline : (apos.endLine == cpos.line) = true := by rfl) :
    PE X (.Call (.Name "list" p) [.Call (.Attribute e "values" apos) [] [] cpos] [] pos) (tE X.K (evListVals fa)) :=
  PEi (pe_callTy (cr_listV hc) hg hm (by decide +kernel) (pa_cons (pe_vals he hbase hline) pa_nil)) fun σ H Q ⟨A, S, ρ, w, env, p⟩ => at_seq (P := Post X.K A H Q) w env p (fun h => h) (fun _ _ h => h) fun v S1 x H1 e1 w1 r1 p1 => by
    split at p1
    · rename_i ps hps
      obtain ⟨a, kvs, rfl, h3, h4⟩ := asM_ok w1 r1 hps
      refine ⟨a, kvs, rfl, h3, fun q hq => ?_⟩
      have e2 := Ext.laid (W := A) (o := valsO q a) hq
      refine ⟨q, a, kvs, rfl, upd_same, by rw [upd_ne (ne_of_none h3 hq)]; exact h3, fun z hz => ?_⟩
      refine Post.fresh (p1.shift (e1.trans e2) (w1.laid hq)) (w1.laid hq) hz ((rpl_vals h4).mono e2.kp)
    · exact p1.elim
end
end MV
set_option Elab.async false
set_option linter.all false
set_option maxRecDepth 100000
set_option maxHeartbeats 1000000
/-! Readings by mirrors: enumerate. -/
namespace PySem
theorem meets_enT (l : Addr) (its : Array Value) : Meets (Builtin.«enumerate.__new__» ⟨[.type "enumerate", .ref l], []⟩) (fun _ R s => s.heap.IsTuple l its ∧
    R (.ok (.ret (.ref (s.heap.push { cls := .type "tuple_iterator", data := .fields #[.ref l, .int 0 0] }).objs.size)))
      { s with heap := (s.heap.push { cls := .type "tuple_iterator", data := .fields #[.ref l, .int 0 0] }).push { cls := .type "enumerate", data := .fields #[.none, .bool false, .ref s.heap.objs.size, rawInt 0, .none, .none] } }) :=
  .of_wp fun prog w A R s h => by
    obtain ⟨hp, g, d, tk, os⟩ := s
    obtain ⟨hl, h⟩ := h
    have hsub := sub_enumerate
    have hL : Heap.IsTuple (Shared.heap ⟨hp, g, d, tk, os⟩) l its := hl
    wp_walk using wpAny_pyIter_tuple hL
    refine wpAny_stack_any (fun st => wpAny_pure ?_)
    split
    · rename_i c _ _ _ _ _
      cases (c == Value.type "enumerate") <;> (wp_walk using wpAny_pyIter_tuple hL; exact ⟨_, rfl, h⟩)
    · wp_walk using wpAny_pyIter_tuple hL
      exact ⟨_, rfl, h⟩
theorem call_enT {prog : Program} {w : World} {A : Around} {E : Value → Shared → Prop} {s : Shared} {l : Addr} {its : Array Value} {Q : Value → Shared → Prop} (hL : s.heap.IsTuple l its)
    (h : ∀ h', IsEnum h' (s.heap.objs.size + 1) s.heap.objs.size 0 .none → h'.IsTupleIter s.heap.objs.size l 0 → (∀ b o, s.heap.get? b = some o → h'.get? b = some o) → Q (.ref (s.heap.objs.size + 1)) { s with heap := h' }) :
    wpAny (model prog w) A (call (.type "enumerate") [.ref l]) Q E s := by
  refine callType_new F.called_enumerate (by decide) (F.typeCall_enumerate_1 _) (F.newCall_enumerate_1 _) (fun obj => F.args_object_init_2 obj _) F.entry_enumerate_new (meets_enT l its) ⟨hL, ?_⟩
  generalize hI : ({ cls := .type "tuple_iterator", data := .fields #[.ref l, .int 0 0] } : Obj) = oI
  generalize hE : ({ cls := .type "enumerate", data := .fields #[.none, .bool false, .ref s.heap.objs.size, rawInt 0, .none, .none] } : Obj) = oE
  have hz : (s.heap.push oI).objs.size = s.heap.objs.size + 1 := Heap.size_push ..
  have he : ((s.heap.push oI).push oE).get? (s.heap.objs.size + 1) = some oE := by
    have q := Heap.get?_push_size (s.heap.push oI) (o := oE) (by rw [← hE]; rfl)
    rw [hz] at q; exact q
  have hi : ((s.heap.push oI).push oE).get? s.heap.objs.size = some oI := Heap.get?_push_of_some _ (Heap.get?_push_size _ (by rw [← hI]; rfl))
  show _ ∧ _
  rw [hz]
  refine ⟨⟨_, he, by rw [← hE]⟩, h _ (by rw [← hE] at he ⊢; exact he) ⟨_, hi, by rw [← hI], by rw [← hI]; rfl⟩ fun b o x => Heap.get?_push_of_some _ (Heap.get?_push_of_some _ x)⟩
end PySem
namespace MV
open PySem PySem.Spec PyProof.Rows L2
/-- the tuple at a, each item in a new pair with its number -/
def IteT (K : Frg) (a : Addr) : It :=
  ⟨fun i H => ∃ (xs : List V) (x : V), SqT K H a xs ∧ xs[i]? = some x, fun i H v H' => ∃ T x, v = .ref T ∧ H T = none ∧ H' = L2.upd H T (.tup [.int (i : Nat), x]) ∧ ∀ xs, SqT K H a xs → xs[i]? = some x, fun i H => ∃ xs : List V, SqT K H a xs ∧ xs.length = i⟩
theorem turn_enT {P : Program} {w : World} {K : Frg} {elts : List Expr} {kk : Nat} {tpos : Pos} (a e it : Addr) :
    Turn P w K (.Tuple elts kk tpos) (IteT K a) [e, it] e (fun i h => (∃ old, IsEnum h e it ((i : Nat) : Int) old) ∧ h.IsTupleIter it a i ∧ e ≠ it) where
  mem := by simp
  obj := fun i h st b hb => by
    obtain ⟨⟨old, he⟩, ⟨o, ho, hc, hd⟩, _⟩ := st
    simp only [List.mem_cons, List.not_mem_nil, or_false] at hb
    rcases hb with rfl | rfl
    · exact ⟨_, he, fun v q => nomatch q⟩
    · refine ⟨o, ho, fun v q => ?_⟩
      rw [hd] at q; cases q
  keep := fun i h h' st k => by
    obtain ⟨⟨old, he⟩, hi, hne⟩ := st
    exact ⟨⟨old, k e (by simp) _ he⟩, hi.at (fun o q => k it (by simp) o q), hne⟩
  item := by
    intro X hP hw hK hc i pins s σ H E I hf st hg
    subst hP hw hK
    obtain ⟨⟨old, he⟩, hit, hne⟩ := st
    obtain ⟨xs, x, hq, hx⟩ := hg
    obtain ⟨its, rv, p, hz⟩ := I.tuple hq
    obtain ⟨u, hu, ru⟩ := rv.get hx
    have hel : e < s.heap.objs.size := Heap.lt_size he
    have hil : it < s.heap.objs.size := by obtain ⟨_, q, _⟩ := hit; exact Heap.lt_size q
    have hae : a ≠ e := fun z => by
      obtain ⟨o, e1, e2, _⟩ := p
      rw [z, he] at e1
      cases e1
      exact absurd (Value.type.inj e2) (by decide)
    have hai : a ≠ it := fun z => by
      obtain ⟨o, e1, e2, _⟩ := p
      obtain ⟨o', e3, e4, _⟩ := hit
      rw [z, e3] at e1
      cases e1
      rw [e4] at e2
      exact absurd (Value.type.inj e2) (by decide)
    have hlen : i < its.toArray.size := by
      have := (List.getElem?_eq_some_iff.mp hu).1
      simpa using this
    refine wpAny_pyNext_enum_itemD (Draws.tuple (A := X.A.in1) (I.ok.hd hc) it a hai its.toArray) he ⟨hit, p⟩ hlen hne (by simp [hne, Ne.symm hae]) fun y h' tk hy ho hst hT hsz hk => ?_
    have ey : y = u := by
      have hy : its.toArray[i]? = some y := hy
      rw [List.getElem?_toArray, hu] at hy
      cases hy; rfl
    subst ey
    refine ⟨_, rfl, wpAny_letOwnedTupleGo_enum (s := { s with heap := h', toks := tk + 1 }) ho fun h'' he' sb => ?_⟩
    have hT2 := (sb.2 _ (Nat.ne_of_gt hel)).trans hT
    have new : ObjOk X.prog X.w (L2.upd H s.heap.objs.size (.tup [.int (i : Nat), x])) h'' s.heap.objs.size (.tup [.int (i : Nat), x]) := by
      refine ⟨by show 2 ≤ sizeLine; decide, [.int i tk, y], .cons ⟨_, rfl⟩ (.cons ru .nil), ?_⟩
      exact ⟨_, hT2, rfl, _, rfl⟩
    have I1 : Inv X pins σ (L2.upd H s.heap.objs.size (.tup [.int (i : Nat), x])) { s with heap := h'', toks := tk + 1 } := by
      refine I.turnedNew (ch := [e, it]) (fun b ob hb q => ?_) hf (Nat.le_refl _) new
      exact (sb.2 b (fun z => hb (by simp [z]))).trans (hk b ob (fun z => hb (by simp [z])) (fun z => hb (by simp [z])) q)
    refine ⟨.ref s.heap.objs.size, _, I1, rfl, ⟨_, x, rfl, I.hok.fresh (Nat.le_refl _), rfl, fun ys hy => ?_⟩, ⟨⟨y, ?_⟩, hst.1.at (fun o q => (sb.2 it (Ne.symm hne)).trans q), hne⟩, fun b hb => ?_⟩
    · rw [I.tuple_inj hy hq]; exact hx
    · rw [show ((i + 1 : Nat) : Int) = (i : Int) + 1 by omega]; exact he'
    · have hb' : b < s.heap.objs.size := by
        simp only [List.mem_cons, List.not_mem_nil, or_false] at hb
        rcases hb with rfl | rfl
        · exact hel
        · exact hil
      rw [upd_ne (Nat.ne_of_lt hb')]
      exact (hf b hb).1
  done := by
    intro X hP hw hK hc i pins s σ H E I hf st hg
    subst hP hw hK
    obtain ⟨⟨old, he⟩, hit, hne⟩ := st
    obtain ⟨xs, hq, hx⟩ := hg
    obtain ⟨its, rv, p, hz⟩ := I.tuple hq
    obtain ⟨f0, f1, f2, f3, f4, f5⟩ := hf it (by simp)
    have hae : a ≠ it := fun z => by
      obtain ⟨o, e1, e2, _⟩ := p
      obtain ⟨o', e3, e4, _⟩ := hit
      rw [z, e3] at e1
      cases e1
      rw [e4] at e2
      exact absurd (Value.type.inj e2) (by decide)
    have hn : its.toArray.size = i := by rw [List.size_toArray, ← rv.length]; exact hx
    refine wpAny_pyNext_enum_endD (Draws.tuple (A := X.A.in1) (I.ok.hd hc) it a hae its.toArray) he ⟨by rw [hn]; exact hit, p⟩ fun h' eb => ⟨rfl, ?_⟩
    exact I.turned (t' := s.toks) (fun b o hb q => eb b o hb q) f0 f1 f3 f4 f5
  self := fun A i s Q E st h => by
    obtain ⟨⟨_, he⟩, _⟩ := st
    exact wpAny_pyIter_enum he h
section
variable {X : Cx} {K : Frg} {a b : Expr} {fa fb : Sx} {pos : Pos} {A A' A2 : Wd} {H H' H2 : Hp} {S S' : Sto} {Q : VK} {ρ : Envi} {σ : L2.St} {D : Ends}
def enumD (ds : List PyData) : List PyData := ds.zipIdx.map fun p => .tuple [.int (p.2 : Nat), p.1]
theorem enumD_length (ds : List PyData) : (enumD ds).length = ds.length := by simp [enumD]
theorem enumD_get {ds : List PyData} {i : Nat} {d : PyData} (h : ds[i]? = some d) : (enumD ds)[i]? = some (.tuple [.int (i : Nat), d]) := by
  simp [enumD, List.getElem?_zipIdx, h]
def iEnm (f : Sx) : SI := fun ρ S => (f ρ S).bind fun v S1 => match seqOf S1 v.th with
  | some (_, ds, g) => .ok ⟨enumD ds, g⟩ S1
  | none => .no
theorem pair_num {x : V} {d : PyData} {T : Addr} {i : Nat} (w : Wf K A S H) (hT : H T = none) (r : Rp K A.V H x d) : Ext A H A (L2.upd H T (.tup [.int (i : Nat), x])) ∧ Wf K A S (L2.upd H T (.tup [.int (i : Nat), x])) ∧ Rp K A.V (L2.upd H T (.tup [.int (i : Nat), x])) (.ref T) (.tuple [.int (i : Nat), d]) :=
  pair_new w hT (.int _) r
theorem src_enum {v : Val} {S0 : Sto} {t : Bool} {ds : List PyData} {g : List (Nat × List PyData)} {a : Addr} (h : seqOf S0 v = some (t, ds, g)) : SrcW K (if t = true then IteT K a else Ite K a) ⟨enumD ds, g⟩ (fun A H => Rv K A H (.ref a) v) := by
  refine ⟨fun A H A' H' e r => r.kx e, fun i A S H hi w r gk => ?_, fun A S H w r gk => ?_, fun i A S H x H' hi w r gk y => ?_⟩
  all_goals obtain ⟨b, xs, eb, q, sq⟩ := seq_stand h w r gk
  all_goals cases eb
  · rw [enumD_length] at hi
    obtain ⟨y, hy, _⟩ := q.get (List.getElem?_eq_getElem hi)
    cases t with
    | true => exact ⟨xs, y, sq, hy⟩
    | false => exact ⟨xs, y, sq, hy⟩
  · rw [enumD_length]
    cases t with
    | true => exact ⟨xs, sq, q.length⟩
    | false => exact ⟨xs, sq, Nat.le_of_eq q.length⟩
  · have fin : ∃ T x', x = .ref T ∧ H T = none ∧ H' = L2.upd H T (.tup [.int (i : Nat), x']) ∧ xs[i]? = some x' := by
      cases t with
      | true => obtain ⟨T, x', e1, e2, e3, f1⟩ := y; exact ⟨T, x', e1, e2, e3, f1 xs sq⟩
      | false => obtain ⟨T, x', e1, e2, e3, f1⟩ := y; exact ⟨T, x', e1, e2, e3, f1 xs sq⟩
    obtain ⟨T, x', rfl, hT, rfl, f1⟩ := fin
    obtain ⟨d, h1, r1⟩ := q.getV f1
    obtain ⟨n1, n2, n3⟩ := pair_num (i := i) w hT r1
    exact ⟨_, enumD_get h1, n1, n2, n3⟩
theorem two_fp {pins : List (Addr × Obj)} {s : Shared} (I : Inv X pins σ H s) : ∀ b ∈ [s.heap.objs.size + 1, s.heap.objs.size], FpOk X pins H b := fun b hb => by
  have hle : s.heap.objs.size ≤ b := by
    simp only [List.mem_cons, List.not_mem_nil, or_false] at hb
    omega
  exact I.fpOk hle (I.hok.fresh hle)
theorem iEn {e : Expr} {f : Sx} {p tpos : Pos} {elts : List Expr} {kk : Nat} (hg : Gl X "enumerate") (hm : X.mg "enumerate" = none) (ha : PE X e (tE X.K f)) (hs : starEach [e] X.env = [(false, eval e X.env)] := by rfl) :
    PI X (.Tuple elts kk tpos) (.Call (.Name "enumerate" p) [e] [] pos) (tI X.K (iEnm f)) := ⟨fun pins s σ H R I h => by
  obtain ⟨A, S, ρ, w, env, p⟩ := h
  refine Call_ (ld_blt I hg hm boot_enumerate (PyProof.Rows.callWith_type1 (thn ((pa_cons ha pa_nil hs).run pos pins s σ H (fun xs H1 => ∃ a S1 v t ds g, xs = [.ref a] ∧ Wf X.K A S1 H1 ∧ Rv X.K A H1 (.ref a) v ∧ seqOf S1 v = some (t, ds, g) ∧ ∀ J B, SrcW X.K J ⟨enumD ds, g⟩ B → B A H1 → R J H1) I ⟨A, S, ρ, w, env, ?_⟩) fun us s1 ⟨vs, H1, I1, r1, a, S1, v, t, ds, g, ex, w1, ru, hq, q⟩ => ?_) hs rfl))
  · refine Post.seq (P := PostI X.K A H R) p (fun h => h) (fun _ _ h => h) fun v S1 x H1 e1 w1 r1 p1 => ?_
    split at p1
    · rename_i t ds g hq
      obtain ⟨a, xs, rfl, _, _⟩ := seq_at hq w1 r1
      exact ⟨a, S1, v.th, t, ds, g, rfl, w1, r1, hq, fun J B sw b => p1 J B H1 e1 w1 sw b⟩
    · exact p1.elim
  · subst ex
    cases r1 with | cons r rr =>
    cases rr
    cases r
    obtain ⟨b, xs, eb, _, sq⟩ := seq_at hq w1 ru
    cases eb
    have fin := q _ _ (src_enum hq) ru
    cases t with
    | true =>
      obtain ⟨its, rv, ht, hz⟩ := I1.tuple (show SqT X.K H1 a xs from sq)
      refine call_enT (show s1.heap.IsTuple a its.toArray from ht) fun h' he hit hk => wpAny_pyIter_enum he ?_
      have I2 : Inv X pins σ H1 { s1 with heap := h' } := I1.kept (t' := s1.toks) hk
      exact ⟨s1.heap.objs.size + 1, [s1.heap.objs.size + 1, s1.heap.objs.size], _, _, H1, rfl, I2, turn_enT a (s1.heap.objs.size + 1) s1.heap.objs.size, ⟨⟨.none, he⟩, hit, Nat.succ_ne_self _⟩, two_fp I1, fin⟩
    | false =>
      obtain ⟨its, rv, pl, hz⟩ := I1.list (show SqL X.K H1 a xs from sq)
      refine call_enumerate_list pl.isList fun h' he hit _ hk => wpAny_pyIter_enum he ?_
      have I2 : Inv X pins σ H1 { s1 with heap := h' } := I1.kept (t' := s1.toks) hk
      exact ⟨s1.heap.objs.size + 1, [s1.heap.objs.size + 1, s1.heap.objs.size], _, _, H1, rfl, I2, turn_enum a (s1.heap.objs.size + 1) s1.heap.objs.size, ⟨⟨.none, he⟩, hit, Nat.succ_ne_self _⟩, two_fp I1, fin⟩⟩
end
end MV
set_option Elab.async false
set_option linter.all false
set_option maxRecDepth 100000
set_option maxHeartbeats 1000000
/-! Readings by mirrors: sorted(set(..)), len(set(..)). -/
namespace MV
open PySem PySem.Spec PyProof.Rows L2
/-! ### each once -/
section
variable {α : Type} [DecidableEq α]
def dd : List α → List α
  | [] => []
  | x :: xs => if x ∈ xs then dd xs else x :: dd xs
@[simp] theorem mem_dd {a : α} : ∀ {xs : List α}, a ∈ dd xs ↔ a ∈ xs
  | [] => by simp [dd]
  | x :: xs => by
    unfold dd
    split
    · rename_i h
      rw [mem_dd, List.mem_cons]
      exact ⟨.inr, fun q => q.elim (fun e => e ▸ h) id⟩
    · rw [List.mem_cons, List.mem_cons, mem_dd]
theorem nodup_dd : ∀ (xs : List α), (dd xs).Nodup
  | [] => .nil
  | x :: xs => by
    unfold dd
    split
    · exact nodup_dd xs
    · rename_i h
      exact List.nodup_cons.mpr ⟨by rw [mem_dd]; exact h, nodup_dd xs⟩
theorem dd_of_nodup : ∀ {xs : List α}, xs.Nodup → dd xs = xs
  | [], _ => rfl
  | x :: xs, h => by
    obtain ⟨h1, h2⟩ := List.nodup_cons.mp h
    unfold dd
    rw [if_neg h1, dd_of_nodup h2]
theorem dd_len : ∀ (xs : List α), (dd xs).length ≤ xs.length
  | [] => Nat.le_refl _
  | x :: xs => by
    unfold dd
    have := dd_len xs
    split
    · rw [List.length_cons]; omega
    · rw [List.length_cons, List.length_cons]; omega
theorem dd_full : ∀ {xs : List α}, (dd xs).length = xs.length → xs.Nodup
  | [], _ => .nil
  | x :: xs, h => by
    have h1 := dd_len xs
    unfold dd at h
    split at h
    · rw [List.length_cons] at h; omega
    · rename_i hx
      rw [List.length_cons, List.length_cons] at h
      exact List.nodup_cons.mpr ⟨hx, dd_full (by omega)⟩
end
def pairsI : List PyData → Option (List (Int × Int))
  | [] => some []
  | .tuple [.int a, .int b] :: r => (pairsI r).map ((a, b) :: ·)
  | _ :: _ => none
theorem pairsI_ok : ∀ {ds : List PyData} {ps : List (Int × Int)}, pairsI ds = some ps → ds = ps.map fun p => .tuple [.int p.1, .int p.2]
  | [], _, h => by cases h; rfl
  | d :: ds, ps, h => by
    unfold pairsI at h
    split at h
    · rename_i q; cases q
    · rename_i a b r e
      cases e
      cases q : pairsI ds with
      | none => rw [q] at h; cases h
      | some qs => rw [q] at h; cases h; rw [pairsI_ok q]; rfl
    · cases h
theorem pairsI_map : ∀ ps : List (Int × Int), pairsI (ps.map fun p => .tuple [.int p.1, .int p.2]) = some ps
  | [] => rfl
  | p :: ps => by
    show (pairsI (ps.map fun p => .tuple [.int p.1, .int p.2])).map ((p.1, p.2) :: ·) = _
    rw [pairsI_map ps]; rfl
def pleb (p q : Int × Int) : Bool := decide (p.1 < q.1 ∨ (p.1 = q.1 ∧ p.2 ≤ q.2))
section
variable {X : Cx} {K : Frg} {a b : Expr} {fa fb : Sx} {pos : Pos} {A A' A2 : Wd} {H H' H2 : Hp} {S S' : Sto} {Q : VK} {ρ : Envi} {σ : L2.St} {D : Ends}
/-! ### sorted(set(t)) of a tuple of whole numbers, sorted(set(l)) of a list of pairs from 0 to 999 -/
def gSorSet : Val → Sto → Res Val
  | .d (.tuple ds), S => match intsOf ds with
    | some ns => if ns.length < 60 then .ok (.f (.lst (((dd ns).mergeSort fun a b => decide (a ≤ b)).map .int))) S else .no
    | none => .no
  | v, S => match (asR S v).bind pairsI with
    | some ps => if ps.length < 64 ∧ ps.all (fun p => decide (0 ≤ p.1 ∧ p.1 < 1000 ∧ 0 ≤ p.2 ∧ p.2 < 1000)) = true then .ok (.f (.lst (((dd ps).mergeSort pleb).map fun p => .tuple [.int p.1, .int p.2]))) S else .no
    | none => .no
def evSortedSet (f : Sx) : Sx := fun ρ S => (f ρ S).bind fun v S1 => gSorSet v.th S1
theorem cr_setTI (hc : X.calm = true) : CallR X (.type "set") (fun xs H Q => ∃ (l : Addr) (ns : List Int), xs = [.ref l] ∧ SqT X.K H l (ns.map V.int) ∧ ns.length < 64 ∧ ∀ a c, H a = none → c ≤ ns.length → Q (.ref a) (L2.upd H a (SetO X.w a (fun j => decide (j ∈ ns)) c))) := by
  intro pins s σ H xs us Q I r h
  obtain ⟨l, ns, rfl, hl, hf, q⟩ := h
  rw [Vals.ref1 r]
  obtain ⟨its, rv, pl, hz⟩ := I.tuple hl
  refine call_set_tupI (P := X.prog) (w := X.w) ns (I.ok.hd hc) (show s.heap.IsTuple l its.toArray from pl) (by simpa using rv.ints) (by unfold scanBound; omega) fun h' tk c R hcn k => ?_
  exact ⟨.ref s.heap.objs.size, _, I.laid (t' := tk) k (Nat.le_refl _) (setO_new R), rfl, q _ c (I.hok.fresh (Nat.le_refl _)) hcn⟩
theorem pairs_addr {L : List Addr} : ∀ {ps : List (Int × Int)} {xs : List V}, RpL K L H xs (ps.map fun p => .tuple [.int p.1, .int p.2]) →
    ∃ ks : List (Addr × List Int), xs = ks.map (fun k => V.ref k.1) ∧ ks.map (·.2) = ps.map (fun p => [p.1, p.2]) ∧ ∀ k ∈ ks, Rp K L H (.ref k.1) (.tuple (k.2.map .int)) ∧ SqT K H k.1 (k.2.map V.int)
  | [], _, r => by cases r; exact ⟨[], rfl, rfl, fun k hk => by cases hk⟩
  | p :: ps, xs, r => by
    have r : RpL K L H xs (.tuple [.int p.1, .int p.2] :: ps.map fun p => .tuple [.int p.1, .int p.2]) := r
    cases r with | cons r1 r2 =>
    obtain ⟨ks, e1, e2, e3⟩ := pairs_addr r2
    have r1' := r1
    cases r1 with | tup l t =>
    rename_i a ys
    cases t with | cons t1 t =>
    cases t with | cons t2 t =>
    cases t
    cases t1
    cases t2
    refine ⟨(a, [p.1, p.2]) :: ks, by rw [e1]; rfl, by rw [List.map_cons, e2]; rfl, fun k hk => ?_⟩
    rcases List.mem_cons.mp hk with rfl | hk
    · exact ⟨r1', l.seq⟩
    · exact e3 k hk
def unL (l : List Int) : Int × Int := (l.getD 0 0, l.getD 1 0)
theorem code_lex {a b c d : Int} (h : TS.code 1000 [a, b] ≤ TS.code 1000 [c, d]) (b1 : 0 ≤ a ∧ a < 1000) (b2 : 0 ≤ b ∧ b < 1000) (b3 : 0 ≤ c ∧ c < 1000) (b4 : 0 ≤ d ∧ d < 1000) : pleb (a, b) (c, d) = true := by
  have e : ∀ x y : Int, TS.code 1000 [x, y] = x * 1000 + y := fun x y => by
    show x * 1000 ^ 1 + (y * 1000 ^ 0 + 0) = _
    simp
  rw [e, e] at h
  unfold pleb
  simp only [decide_eq_true_eq]
  omega
theorem pleb_anti {p q : Int × Int} (h1 : pleb p q = true) (h2 : pleb q p = true) : p = q := by
  unfold pleb at h1 h2
  simp only [decide_eq_true_eq] at h1 h2
  exact Prod.ext (by omega) (by omega)
theorem psort_eq {ys ps : List (Int × Int)} (h1 : ys.Perm ps) (h2 : ys.Pairwise fun p q => pleb p q = true) : ys = ps.mergeSort pleb := by
  refine List.Perm.eq_of_pairwise (le := fun p q => pleb p q = true) (fun a b _ _ h1 h2 => pleb_anti h1 h2) h2 ?_ (h1.trans (List.mergeSort_perm _ _).symm)
  refine List.pairwise_mergeSort (fun a b c h1 h2 => ?_) (fun a b => ?_) ps
  · unfold pleb at *
    simp only [decide_eq_true_eq] at *
    omega
  · unfold pleb
    simp only [Bool.or_eq_true, decide_eq_true_eq]
    omega
theorem sqT_laid {a b : Addr} {xs : List V} {o : HO} (h : SqT K H a xs) (hb : H b = none) : SqT K (L2.upd H b o) a xs := by
  rcases h with (h | ⟨o', h⟩) | h
  · exact .inl (.inl (by rw [upd_ne (ne_of_none h hb)]; exact h))
  · exact .inl (.inr ⟨o', by rw [upd_ne (ne_of_none h hb)]; exact h⟩)
  · exact .inr h
theorem eSortedSet {e : Expr} {f : Sx} {p p2 q : Pos} (hc : X.calm = true) (hu : X.A.units + 100 < cLine) (hg : Gl X "sorted") (hm : X.mg "sorted" = none) (hg2 : Gl X "set") (hm2 : X.mg "set" = none) (ha : PE X e (tE X.K f))
    (hs : starEach [e] X.env = (false, eval e X.env) :: starEach [] X.env := by rfl) : PE X (.Call (.Name "sorted" p) [.Call (.Name "set" p2) [e] [] q] [] pos) (tE X.K (evSortedSet f)) :=
  PEi (pe_callB (CallR.or (cr_sortedSet hc) (cr_sortedT hc)) hg hm (by decide +kernel) (pa_cons (pe_callTy (CallR.or (cr_setTI hc) (cr_setOfT hc (by omega))) hg2 hm2 (by decide +kernel) (pa_cons ha pa_nil hs) (by decide) (by decide) hs) pa_nil)) fun σ H Q ⟨A, S, ρ, w, env, p⟩ =>
  at_seq (P := Post X.K A H Q) w env p (fun h => h) (fun _ _ h => h) fun v S1 x H1 e1 w1 r1 p1 => by
    unfold gSorSet at p1
    split at p1
    · rename_i ds hv
      rw [hv] at r1
      split at p1
      case h_2 => exact p1.elim
      rename_i ns hns
      split at p1
      case isFalse => exact p1.elim
      rename_i hl
      have e := intsOf_ok hns
      subst e
      have r1 : Rp X.K A.V H1 x (.tuple (ns.map .int)) := r1
      cases r1 with | tup l t =>
      rename_i a xs
      have e := t.ints
      subst e
      refine .inl ⟨a, ns, rfl, l.seq, by omega, fun a2 c ha2 hcn => .inl ⟨a2, _, c, rfl, upd_same, by omega, fun ns' p3 h1 h2 h3 hp3 => ?_⟩⟩
      have e4 : ns' = (dd ns).mergeSort fun a b => decide (a ≤ b) := by
        refine isort_eq ?_ (h1.imp fun h => by omega)
        refine (List.perm_ext_iff_of_nodup (h1.imp fun h => by omega) (nodup_dd ns)).mpr fun k => ?_
        rw [h2, mem_dd, decide_eq_true_iff]
      rw [e4]
      have e5 := Ext.laid (W := A) (o := SetO X.w a2 (fun j => decide (j ∈ ns)) c) ha2
      exact Post.fresh (p1.shift (e1.trans e5) (w1.laid ha2)) (w1.laid ha2) hp3 (RpL.of_ints _)
    · split at p1
      case h_2 => exact p1.elim
      rename_i ps hps
      split at p1
      case isFalse => exact p1.elim
      rename_i hl
      obtain ⟨ds, g1, g2⟩ := Option.bind_eq_some_iff.mp hps
      obtain ⟨a, xs, rfl, g3, g4⟩ := asR_ok w1 r1 g1
      have e := pairsI_ok g2
      subst e
      obtain ⟨ks, e1', e2, e3⟩ := pairs_addr g4
      subst e1'
      have hlen : ks.length = ps.length := by
        have := congrArg List.length e2
        simpa using this
      have form : ∀ k ∈ ks, ∃ q ∈ ps, k.2 = [q.1, q.2] := fun k hk => by
        have : k.2 ∈ ks.map (·.2) := List.mem_map_of_mem hk
        rw [e2] at this
        obtain ⟨q, h1, h2⟩ := List.mem_map.mp this
        exact ⟨q, h1, h2.symm⟩
      have bd : ∀ q ∈ ps, (0 ≤ q.1 ∧ q.1 < 1000) ∧ 0 ≤ q.2 ∧ q.2 < 1000 := fun q hq => by
        have := List.all_eq_true.mp hl.2 q hq
        simp only [decide_eq_true_eq] at this
        omega
      refine .inr ⟨a, ks, rfl, g3, fun k hk => (e3 k hk).2, by omega, fun a2 L ha2 hL1 hL2 => .inr ⟨a2, L, 2, 1000, rfl, upd_same, fun k hk => ?_, by decide, fun k hk => ?_, fun L' p3 h1 h2 h3 h4 hp3 => ?_⟩⟩
      · exact sqT_laid (e3 k (hL1 k hk)).2 ha2
      · obtain ⟨q, hq, e4⟩ := form k (hL1 k hk)
        rw [e4]
        refine ⟨rfl, fun m hm => ?_⟩
        have := bd q hq
        simp at hm
        rcases hm with rfl | rfl
        · exact this.1
        · exact this.2
      · have formL : ∀ k ∈ L', ∃ q ∈ ps, k.2 = [q.1, q.2] := fun k hk => form k (hL1 k (h1.mem_iff.mp hk))
        have e5 : L'.map (fun k => unL k.2) = (dd ps).mergeSort pleb := by
          refine psort_eq ((List.perm_ext_iff_of_nodup ?_ (nodup_dd ps)).mpr fun q => ?_) ?_
          · rw [List.Nodup, List.pairwise_map]
            have h2' : L'.Pairwise fun k k' => k.2 ≠ k'.2 := List.pairwise_map.mp h2
            refine h2'.imp_of_mem fun {k k'} hk hk' ne e => ne ?_
            obtain ⟨q, _, q1⟩ := formL k hk
            obtain ⟨q', _, q2⟩ := formL k' hk'
            rw [q1, q2] at e ⊢
            simp [unL] at e
            rw [e.1, e.2]
          · rw [mem_dd]
            constructor
            · intro hq
              obtain ⟨k, hk, e⟩ := List.mem_map.mp hq
              obtain ⟨q', hq', e'⟩ := formL k hk
              rw [e'] at e
              rw [← e]; exact hq'
            · intro hq
              have m1 : ([q.1, q.2] : List Int) ∈ ks.map (·.2) := by rw [e2]; exact List.mem_map_of_mem (f := fun p : Int × Int => [p.1, p.2]) hq
              obtain ⟨k, hk, ek⟩ := List.mem_map.mp m1
              obtain ⟨k2, hk2, ek2⟩ := List.mem_map.mp (hL2 k hk)
              refine List.mem_map.mpr ⟨k2, h1.mem_iff.mpr hk2, ?_⟩
              have e7 : k2.2 = [q.1, q.2] := ek2.trans ek
              rw [e7]; rfl
          · rw [List.pairwise_map]
            refine h4.imp_of_mem fun {k k'} hk hk' h => ?_
            obtain ⟨q, hq, e⟩ := formL k hk
            obtain ⟨q', hq', e'⟩ := formL k' hk'
            rw [e, e'] at h
            rw [e, e']
            exact code_lex h (bd q hq).1 (bd q hq).2 (bd q' hq').1 (bd q' hq').2
        have e6 : ((dd ps).mergeSort pleb).map (fun p => PyData.tuple [.int p.1, .int p.2]) = L'.map fun k => .tuple (k.2.map .int) := by
          rw [← e5, List.map_map]
          refine List.map_congr_left fun k hk => ?_
          obtain ⟨q, _, e⟩ := formL k hk
          simp only [Function.comp, e]; rfl
        rw [e6] at p1
        have ex := Ext.laid (W := A) (o := SetTO X.prog X.w a2 L) ha2
        refine Post.fresh (p1.shift (e1.trans ex) (w1.laid ha2)) (w1.laid ha2) hp3 ?_
        have all : ∀ M : List (Addr × List Int), (∀ k ∈ M, k ∈ ks) → RpL X.K A.V (L2.upd H1 a2 (SetTO X.prog X.w a2 L)) (M.map fun q => V.ref q.1) (M.map fun k => PyData.tuple (k.2.map .int)) := by
          intro M
          induction M with
          | nil => intro _; exact .nil
          | cons k M ih =>
            intro h
            exact .cons ((e3 k (h k (by simp))).1.mono ex.kp) (ih fun k' hk' => h k' (List.mem_cons_of_mem _ hk'))
        exact all L' fun k hk => hL1 k (h1.mem_iff.mp hk)
/-! ### len(set(l)) of a list of whole numbers -/
theorem first_nodup (val : Nat → Int) : ∀ i, (firstMet val i).Nodup
  | 0 => by rw [firstMet_zero]; exact .nil
  | i + 1 => by
    have ih := first_nodup val i
    rw [firstMet_succ]
    unfold step_dedup
    split
    · exact ih
    · rename_i h
      rw [List.nodup_append]
      refine ⟨ih, by simp, fun x hx y hy e => h ?_⟩
      rw [List.mem_singleton.mp hy] at e
      subst e
      exact List.any_eq_true.mpr ⟨_, hx, by simp⟩
theorem first_len (ns : List Int) : (firstMet (fun i => ns.getD i 0) ns.length).length = (dd ns).length := by
  refine List.Perm.length_eq ((List.perm_ext_iff_of_nodup (first_nodup _ _) (nodup_dd ns)).mpr fun k => ?_)
  rw [mem_dd]
  have h := firstMet_any (fun i => ns.getD i 0) ns.length k
  have e : (List.range ns.length).map (fun i => ns.getD i 0) = ns := by
    refine List.ext_getElem (by simp) fun i h1 h2 => ?_
    simp [List.getD_eq_getElem?_getD, List.getElem?_eq_getElem h2]
  rw [e] at h
  have g : ∀ l : List Int, l.any (· == k) = true ↔ k ∈ l := fun l => by simp
  rw [← g, ← g, h]
def evLenSet (f : Sx) : Sx := fun ρ S => (f ρ S).bind fun v S1 => match (asR S1 v.th).bind intsOf with
  | some ns => if ns.length ≤ 4000 then .ok (.d (.int (dd ns).length)) S1 else .no
  | none => .no
theorem cr_setLI (hc : X.calm = true) : CallR X (.type "set") (fun xs H Q => ∃ (l : Addr) (ns : List Int), xs = [.ref l] ∧ SqL X.K H l (ns.map V.int) ∧ ns.length ≤ 4000 ∧ ∀ a, H a = none → Q (.ref a) (L2.upd H a (.set (fun j => (firstMet (fun i => ns.getD i 0) ns.length).any (· == j)) (dd ns).length))) := by
  intro pins s σ H xs us Q I r h
  obtain ⟨l, ns, rfl, hl, hf, q⟩ := h
  rw [Vals.ref1 r]
  obtain ⟨its, rv, pl, hz⟩ := I.list hl
  have hn : its.toArray.size = ns.length := by rw [List.size_toArray, ← rv.length, List.length_map]
  refine call_set_list (I.ok.hd hc) pl.isList (ns := ns) (by simpa using rv.ints) (by unfold scanBound; omega) fun h' tk hS k => ?_
  rw [hn, first_len] at hS
  exact ⟨.ref s.heap.objs.size, _, I.laid (t' := tk) (fun b o e => k b o (Heap.lt_size e) e) (Nat.le_refl _) (show ObjOk X.prog X.w _ _ _ (.set _ _) from hS), rfl, q _ (I.hok.fresh (Nat.le_refl _))⟩
theorem cr_lenSetI : CallR X (.builtin "len") (fun xs H Q => ∃ (a : Addr) (T : Int → Bool) (n : Nat), xs = [.ref a] ∧ H a = some (.set T n) ∧ n ≤ 4000 ∧ Q (.int n) H) := by
  intro pins s σ H xs us Q I r h
  obtain ⟨a, T, n, rfl, ha, hn, q⟩ := h
  rw [Vals.ref1 r]
  have hS : s.heap.SetOf (intKind X.prog X.w) a T n := I.hok a _ ha
  obtain ⟨o, es, ep, t, ho, hex, hd, _, _, _, hf, hn2⟩ := hS
  refine call_len_set ho hex hd hf (by rw [hn2]; omega) ⟨.int n, H, I.tok _, ⟨_, by rw [hn2]⟩, q⟩
theorem eLenSet {e : Expr} {f : Sx} {p p2 q : Pos} (hc : X.calm = true) (hu : X.A.units + 100 < cLine) (hg : Gl X "len") (hm : X.mg "len" = none) (hg2 : Gl X "set") (hm2 : X.mg "set" = none) (ha : PE X e (tE X.K f))
    (hs : starEach [e] X.env = (false, eval e X.env) :: starEach [] X.env := by rfl) : PE X (.Call (.Name "len" p) [.Call (.Name "set" p2) [e] [] q] [] pos) (tE X.K (evLenSet f)) :=
  PEi (pe_callB cr_lenSetI hg hm (by decide +kernel) (pa_cons (pe_callTy (cr_setLI hc) hg2 hm2 (by decide +kernel) (pa_cons ha pa_nil hs) (by decide) (by decide) hs) pa_nil)) fun σ H Q ⟨A, S, ρ, w, env, p⟩ =>
  at_seq (P := Post X.K A H Q) w env p (fun h => h) (fun _ _ h => h) fun v S1 x H1 e1 w1 r1 p1 => by
    split at p1
    case h_2 => exact p1.elim
    rename_i ns hns
    split at p1
    case isFalse => exact p1.elim
    rename_i hl
    obtain ⟨ds, g1, g2⟩ := Option.bind_eq_some_iff.mp hns
    obtain ⟨a, xs, rfl, g3, g4⟩ := asR_ok w1 r1 g1
    have e := intsOf_ok g2
    subst e
    have e := g4.ints
    subst e
    have hdd := dd_len ns
    refine ⟨a, ns, rfl, g3, hl, fun a2 ha2 => ⟨a2, _, _, rfl, upd_same, by omega, ?_⟩⟩
    have ex := Ext.laid (W := A) (o := HO.set (fun j => (firstMet (fun i => ns.getD i 0) ns.length).any (· == j)) (dd ns).length) ha2
    exact p1 _ _ (e1.trans ex) (w1.laid ha2) (.int _)
end
end MV
set_option Elab.async false
set_option linter.all false
set_option maxRecDepth 100000
set_option maxHeartbeats 1000000
/-! Readings by mirrors: x[::-1]. -/
namespace MV
open PySem PySem.Spec PyProof.Rows L2 HT
section
variable {prog : Program} {w : World} {A : Around} {E : Value → Shared → Prop} {s : Shared}
theorem adj_rev (n : Nat) : Builtin.Slice.sliceAdjust none none (-1) (n : Int) = ((n : Int) - 1, -1) := by
  simp [Builtin.Slice.sliceAdjust]
theorem places_rev (n : Nat) : Builtin.Slice.slicePlaces ((n : Int) - 1) (-1) (-1) = n := by
  unfold Builtin.Slice.slicePlaces
  rw [if_neg (by decide)]
  by_cases h : (n : Int) - 1 > -1
  · rw [if_pos h, show (-(-1) : Int) = 1 by decide, Int.ediv_one]; omega
  · rw [if_neg h]; omega
theorem pick_rev (xs : Array Value) : ((List.range xs.size).filterMap fun (m : Nat) => xs[((xs.size : Int) - 1 + (m : Int) * (-1)).toNat]?).toArray = xs.toList.reverse.toArray := by
  have e : (fun (m : Nat) => xs[((xs.size : Int) - 1 + (m : Int) * (-1)).toNat]?) = fun m => xs[xs.size - 1 - m]? := by
    funext m
    rw [show ((xs.size : Int) - 1 + (m : Int) * (-1)).toNat = xs.size - 1 - m by omega]
  rw [e]
  have h := PySem.W.krv_range xs.size
  have h2 : (List.range xs.size).filterMap (fun m => xs[xs.size - 1 - m]?) = ((List.range xs.size).map fun k => xs.size - 1 - k).filterMap (xs[·]?) := by
    rw [List.filterMap_map]; rfl
  rw [h2, h, List.filterMap_reverse, PySem.W.krv_all]
theorem applied_rev {sl : Addr} {vk : Value} {n : Nat} {Q : Int × Int × Nat → Shared → Prop} (hs : s.heap.IsSliceOf sl .none .none vk) (pk : IsPart vk (some (-1)))
    (h : Q ((n : Int) - 1, -1, n) s) : wpAny (model prog w) A (Builtin.Slice.sliceApplied (.ref sl) (pure (n : Int))) Q E s := by
  obtain ⟨os, hos, hcs, hds⟩ := id hs
  unfold Builtin.Slice.sliceApplied Builtin.Slice.sliceFields
  refine wpAny_bind (wpAny_bind (wpAny_field hos hds (x := .none) rfl (wpAny_bind (wpAny_field hos hds (x := .none) rfl (wpAny_bind (wpAny_field hos hds (x := vk) rfl (wpAny_pure ?_)))))))
  refine wpAny_bind (slicePart_ pk ?_)
  show wpAny _ _ (if ((-1 : Int) == 0) = true then _ else _) _ _ s
  rw [if_neg (by decide)]
  refine wpAny_bind (slicePart_none (wpAny_bind (slicePart_none (wpAny_bind (wpAny_pure ?_)))))
  show wpAny _ _ (match Builtin.Slice.sliceAdjust none none (-1) (n : Int) with | (lo, hi) => pure (lo, (-1 : Int), Builtin.Slice.slicePlaces lo hi (-1))) _ _ s
  rw [adj_rev n]
  show wpAny _ _ (pure ((n : Int) - 1, (-1 : Int), Builtin.Slice.slicePlaces ((n : Int) - 1) (-1) (-1))) _ _ s
  rw [places_rev]
  exact wpAny_pure h
theorem getItem_tuple_rev {t sl : Addr} {items : Array Value} {vk : Value} {Q : Value → Shared → Prop} (ht : IsTup s.heap t items) (hs : s.heap.IsSliceOf sl .none .none vk) (pk : IsPart vk (some (-1)))
    (h : Q (.ref s.heap.objs.size) { s with heap := s.heap.push { cls := .type "tuple", data := .seq items.toList.reverse.toArray } }) (hsz : items.size ≤ sizeLine) : wpAny (model prog w) A (getItem (.ref t) (.ref sl)) Q E s := by
  have hz : sizeOk (.seq items.toList.reverse.toArray) := by
    show items.toList.reverse.toArray.size ≤ sizeLine
    rw [List.size_toArray, List.length_reverse, Array.length_toList]; exact hsz
  obtain ⟨os, hos, hcs, hds⟩ := id hs
  have hTs : s.TypeIs (.ref sl) "slice" := ⟨os, hos, hcs⟩
  unfold getItem
  try with_reducible refine wpAny_holding ?_
  first | refine wpAny_bind (wpAny_pure ?_) | skip
  refine wpAny_bind (wpAny_sequenceKey ht.typeIs (by decide) ?_)
  refine wpAny_bind (wpAny_callSpecial?_slot (name := Str.ofString "__getitem__") ht.typeIs PyProof.Rows.slot_tuple_getitem (wpAny_call_entry PyProof.Rows.slot_tuple_getitem ht.typeIs entry_tuple_getitem ?_ (args_tuple_getitem _ _)))
  show wpAny _ _ (Builtin.Tuple.tupleItemsOf (.ref t) >>= _) _ _ s
  refine wpAny_bind (tupleItemsOf_ ht (wpAny_bind (wpAny_typeOf hTs ?_)))
  rw [if_pos (by decide)]
  refine wpAny_bind (applied_rev hs pk ?_)
  have hno : ¬ ((((items.size : Int) - 1) == 0 && (-1 : Int) == 1 && items.size == items.size) = true) := by
    rw [show ((-1 : Int) == 1) = false by decide]; simp
  show wpAny _ _ (if (((items.size : Int) - 1) == 0 && (-1 : Int) == 1 && items.size == items.size) = true then _ else _) _ _ s
  rw [if_neg hno, pick_rev]
  first
    | exact wpAny_bind (m := Builtin.Tuple.tupleExact _) (wpAny_newObj_type (wpAny_pure ⟨_, rfl, wpAny_pure h⟩) hz)
    | exact wpAny_bind (m := Builtin.Tuple.tupleExact _) (wpAny_newObj_type (wpAny_bind (wpAny_pure (wpAny_pure ⟨_, rfl, wpAny_pure h⟩))) hz)
    | exact wpAny_bind (wpAny_bind (m := Builtin.Tuple.tupleExact _) (wpAny_newObj_type (wpAny_pure (wpAny_pure ⟨_, rfl, wpAny_pure h⟩)) hz))
    | exact wpAny_bind (wpAny_bind (m := Builtin.Tuple.tupleExact _) (wpAny_newObj_type (wpAny_pure ⟨_, rfl, wpAny_pure h⟩) hz))
end
section
variable {X : Cx} {K : Frg} {a b : Expr} {fa fb : Sx} {pos : Pos} {A A' A2 : Wd} {H H' H2 : Hp} {S S' : Sto} {Q : VK} {ρ : Envi} {σ : L2.St} {D : Ends}
/-- x[::-1], by values: the slice stands at sl -/
def tRev (K : Frg) (te : TE) : TE := fun σ H Q => te σ H fun x H1 => ∃ a xs, x = .ref a ∧ ((SqT K H1 a xs ∧ ∀ p, H1 p = none → Q (.ref p) (L2.upd H1 p (.tup xs.reverse))) ∨ (SqL K H1 a xs ∧ ∀ p, H1 p = none → Q (.ref p) (L2.upd H1 p (.lst xs.reverse))))
theorem pe_rev {e : Expr} {te : TE} {c : Nat} {p1 p2 p3 : Pos} (he : PE X e te) : PE X (.Subscript e (.Slice none none (some (.UnaryOp .USub (.Constant (.int 1) c p1) p2)) p3) pos) (tRev X.K te) := by
  refine ⟨fun pins s σ H Q I h => ?_⟩
  refine Subscript_ (thn (he.run pins s σ H _ I h) fun v s1 ⟨x, H1, I1, r1, q1⟩ => ?_)
  have hp : PO X (some (.UnaryOp .USub (.Constant (.int 1) c p1) p2)) (tPart (tUn (fun x H Q => ∃ i, x = V.int i ∧ Q (.int (-i)) H) (tC (.int 1)))) := po_some (pe_un un_neg pe_int)
  refine wpAny_Slice ?_
  rw [evalPart_none]
  refine wpAny_pure (wpAny_pure ?_)
  refine thn (hp.run pins s1 σ H1 (fun o H2 => o = some (-1) ∧ H2 = H1) I1 ⟨1, rfl, -1, rfl, rfl, rfl⟩) fun vk s3 ⟨o, H2, I3, pk, eo, eH⟩ => ?_
  subst eo eH
  have I4 : Inv X pins σ H2 { s3 with heap := s3.heap.push { cls := .type "slice", data := .fields #[.none, .none, vk] } } := I3.kept (t' := s3.toks) fun b ob q => Heap.get?_push_of_some _ q
  have hsl : (s3.heap.push { cls := .type "slice", data := .fields #[.none, .none, vk] }).IsSliceOf s3.heap.objs.size .none .none vk := Heap.IsSliceOf.new ..
  obtain ⟨a, xs, ex, q1⟩ := q1
  subst ex
  cases r1
  show wpAny (model X.prog X.w) X.A (subscriptTail e (.Slice none none (some (.UnaryOp .USub (.Constant (.int 1) c p1) p2)) p3) (.ref a) (.ref s3.heap.objs.size)) (EP X pins σ Q) X.xe { s3 with heap := s3.heap.push { cls := .type "slice", data := .fields #[.none, .none, vk] } }
  rcases q1 with ⟨hq, q⟩ | ⟨hq, q⟩
  · obtain ⟨its, r, ht, hz⟩ := I4.tuple hq
    have hz' : its.toArray.size ≤ sizeLine := by rw [List.size_toArray, ← r.length]; exact hz
    refine tail_any (T := "tuple") (ops := [.ref a, .ref s3.heap.objs.size]) ht.typeIs PyProof.Rows.slot_tuple_getitem.lookup (getItem_tuple_rev ht hsl pk ?_ hz') (by with_unfolding_all rfl)
    refine ⟨.ref _, _, I4.laid (t' := s3.toks) (o := .tup xs.reverse) (fun b ob q => Heap.get?_push_of_some _ q) (Nat.le_refl _) ⟨by rw [List.length_reverse]; exact hz, its.reverse, r.reverse, ?_⟩, rfl, q _ (I4.hok.fresh (Nat.le_refl _))⟩
    have e : its.toArray.toList.reverse = its.reverse := by simp
    rw [e]
    exact IsTup.new _ _
  · obtain ⟨its, r, pl, hz⟩ := I4.list hq
    have hz' : its.toArray.size ≤ sizeLine := by rw [List.size_toArray, ← r.length]; exact hz
    refine tail_any (T := "list") (ops := [.ref a, .ref s3.heap.objs.size]) pl.isList.typeIs list_getitem_lookup (wpAny_getItem_list_slice pl.isList hsl .none .none pk (by decide) ?_ hz') (by with_unfolding_all rfl)
    rw [PySem.W.krv_pick]
    refine ⟨.ref _, _, I4.laid (t' := s3.toks) (o := .lst xs.reverse) (fun b ob q => Heap.get?_push_of_some _ q) (Nat.le_refl _) ⟨by rw [List.length_reverse]; exact hz, its.reverse, 0, r.reverse, ?_⟩, rfl, q _ (I4.hok.fresh (Nat.le_refl _))⟩
    have e : its.toArray.toList.reverse = its.reverse := by simp
    rw [e]
    exact Heap.get?_push_size _ rfl
def evRev (f : Sx) : Sx := fun ρ S => (f ρ S).bind fun v S1 => match seqOf S1 v.th with
  | some q => if q.1 = true then .ok (.d (.tuple q.2.1.reverse)) S1 else .ok (.f (.lst q.2.1.reverse)) S1
  | none => .no
theorem eRev {c : Nat} {p1 p2 p3 : Pos} (he : PE X a (tE X.K fa)) : PE X (.Subscript a (.Slice none none (some (.UnaryOp .USub (.Constant (.int 1) c p1) p2)) p3) pos) (tE X.K (evRev fa)) :=
  PEi (pe_rev he) fun σ H Q ⟨A, S, ρ, w, env, p⟩ => at_seq (P := Post X.K A H Q) w env p (fun h => h) (fun _ _ h => h) fun v S1 x H1 e1 w1 r1 p1 => by
    split at p1
    case h_2 => exact p1.elim
    rename_i q hq
    obtain ⟨t, ds, g⟩ := q
    obtain ⟨a, xs, rfl, r, sq⟩ := seq_at hq w1 r1
    cases t with
    | true =>
      rw [if_pos rfl] at p1
      exact ⟨a, xs, rfl, .inl ⟨sq, fun q hq => p1.tup e1 w1 hq r.reverse⟩⟩
    | false =>
      rw [if_neg Bool.false_ne_true] at p1
      exact ⟨a, xs, rfl, .inr ⟨sq, fun q hq => p1.lst e1 w1 hq r.reverse⟩⟩
end
end MV
set_option Elab.async false
set_option linter.all false
set_option maxRecDepth 100000
set_option maxHeartbeats 1000000
/-! Readings by mirrors: min of two data, max and min with a default, str, counts, indexes, constants of the module. -/
namespace PySem
open Sem (wp)
section
variable {prog : Program} {w : World} {A : Around} {E : Value → Shared → Prop} {s : Shared}
theorem call_min_twoH {a b : Value} {Q : Value → Shared → Prop}
    (h : wpAny (model prog w) A.in1 (pyIter (.ref s.heap.objs.size)) (fun it s₂ => ∃ I fp wr G n P St H bt, it = .ref I ∧ WalksS prog w A.in1 I fp wr G n P St ∧ St 0 s₂ ∧ (∀ b ∈ fp, b < s₂.heap.objs.size) ∧ 0 < n ∧
      (∀ b o, H.get? b = some o → b ∉ wr) ∧ (∀ b o, H.get? b = some o → s₂.heap.get? b = some o) ∧ CmpIn prog w A.in1 .Lt H P bt ∧ ∀ v s', P (argBest bt (n - 1)) v → Moved wr G s₂ s' → Q v s') E { s with heap := s.heap.push { cls := .type "tuple", data := .seq #[a, b] } }) :
    wpAny (model prog w) A (call (.builtin "min") [a, b]) Q E s := by
  have hname : (toString "min" ++ toString ".loop" : String) = "min.loop" := by decide
  refine call_function_tree F.kind_min F.plain_min F.entry_min (F.args_min2 _ _) ?_
  show wpAny _ A.in1 (Builtin.Builtins.bindParams "min" ["key", "default"] 0 ⟨[], []⟩ >>= _) _ _ s
  refine wpAny_bind (wpAny_of_eq (show Builtin.Builtins.bindParams "min" ["key", "default"] 0 ⟨[], []⟩ = pure [none, none] from rfl) (show wpAny _ A.in1 (newTuple [a, b] >>= _) _ _ s from ?_))
  refine wpAny_bind (wpAny_newObj_type (wpAny_bind (wpAny_mono h (fun it s₂ h₂ => ?_) fun _ _ e => e)))
  obtain ⟨I, fp, wr, G, n, P, St, H, bt, rfl, W, hst, hfp, hn, hw, hkeep, hcmp, hQ⟩ := h₂
  refine wpAny_bind (wpAny_newObj_type ?_)
  have hSf : s₂.heap.objs.size ∉ fp := fun hm => Nat.lt_irrefl _ (hfp _ hm)
  rw [hname]
  refine wpAny_pure ⟨plainId_quiet F.plain_min_loop _, codeAny_min_loop_firstH W H hw bt hcmp s₂.heap.objs.size hSf (fresh_in hkeep) _ hn (fun b o e => Heap.get?_push_of_some _ (hkeep b o e)) (W.frame 0 s₂ _ s₂.toks hst (Nat.le_refl _) fun b _ o e => Heap.get?_push_of_some _ e) (Heap.get?_push_size _ rfl) fun v s' hP hm => hQ v s' hP (Moved.drop_new (tk := s₂.toks) hm (Nat.le_refl _))⟩
theorem min_two_data {a b : Value} {x y : PyData} {as bs : List Addr} {Q : Value → Shared → Prop} (hh : A.handled = none) (ra : Reads s.heap a x as) (rb : Reads s.heap b y bs) (al : W.AlikeAll [x, y]) (hu : A.units + 1 + PyData.depthAll [x, y] < cLine)
    (h : ∀ h' tk, (∀ b o, s.heap.get? b = some o → h'.get? b = some o) → Q (if W.dataLt y x = true then b else a) { s with heap := h', toks := tk }) : wpAny (model prog w) A (call (.builtin "min") [a, b]) Q E s := by
  have hr : ReadsAll s.heap (#[a, b] : Array Value).toList [x, y] (as ++ (bs ++ [])) := .cons ra (.cons rb .nil)
  have hT : (s.heap.push { cls := .type "tuple", data := .seq #[a, b] }).IsTuple s.heap.objs.size #[a, b] := ⟨_, Heap.get?_push_size _ rfl, rfl, 0, rfl⟩
  have up : ∀ b' o, s.heap.get? b' = some o → (s.heap.push { cls := .type "tuple", data := .seq #[a, b] }).get? b' = some o := fun b' o e => Heap.get?_push_of_some _ e
  refine call_min_twoH (W.iter_tupleW (A := A.in1) (s := { s with heap := s.heap.push { cls := .type "tuple", data := .seq #[a, b] } }) hh hT fun s₂ e W' st hfp hw hk => ?_)
  refine ⟨_, _, _, _, _, _, _, s.heap, (fun i j => W.dataLt ([x, y].getD i .none) ([x, y].getD j .none)), rfl, W', st, hfp, Nat.succ_pos _, fun b' o e => hw b' o (up b' o e), fun b' o e => hk b' o (up b' o e), W.cmpIn_lt (A := A.in1) hr al (by show A.units + 1 + _ < _; exact hu), fun v s' hP m => ?_⟩
  obtain ⟨h', tk, rfl, hk'⟩ := W.moved_old e rfl m
  have hv : v = if W.dataLt y x = true then b else a := by
    have hP : (#[a, b] : Array Value)[argBest (fun i j => W.dataLt ([x, y].getD i .none) ([x, y].getD j .none)) 1]? = some v := hP
    by_cases c : W.dataLt y x = true
    · have e : argBest (fun i j => W.dataLt ([x, y].getD i .none) ([x, y].getD j .none)) 1 = 1 := by simp [argBest, c]
      rw [e] at hP
      rw [if_pos c]
      simpa using hP.symm
    · have e : argBest (fun i j => W.dataLt ([x, y].getD i .none) ([x, y].getD j .none)) 1 = 0 := by simp [argBest, c]
      rw [e] at hP
      rw [if_neg c]
      simpa using hP.symm
  rw [hv]
  exact h h' tk fun b' o e => hk' b' o (up b' o e)
end
end PySem
namespace MV
open PySem PySem.Spec PyProof.Rows L2
section
variable {X : Cx} {K : Frg} {a b : Expr} {fa fb : Sx} {pos : Pos} {A A' A2 : Wd} {H H' H2 : Hp} {S S' : Sto} {Q : VK} {ρ : Envi} {σ : L2.St} {D : Ends}
/-! ### min(x, y) of data -/
def gMin2 : List Val → Sto → Res Val
  | [.d x, .d y], S => if allAlike [x, y] = true then .ok (.d (if PySem.W.dataLt y x = true then y else x)) S else .no
  | _, _ => .no
theorem bMin2 (hc : X.calm = true) (hu : X.A.units + 100 < cLine) : BRul X (.builtin "min") gMin2 := by
  intro pins s σ A S H xs us vs Q I wf rvs rus p
  unfold gMin2 at p
  split at p
  case h_2 => exact p.elim
  rename_i x y
  split at p
  case isFalse => exact p.elim
  rename_i hal
  obtain ⟨al, sh⟩ := allAlike_ok hal
  cases rvs with | cons r1 r2 =>
  cases r2 with | cons r2 r3 =>
  cases r3
  obtain ⟨u, u2, rfl, q1, q2⟩ := vals2 rus
  have hd := shaped_depAll sh
  obtain ⟨as, ra⟩ := Dp.reads I x _ u (Rp.dp _ _ (SeqAt.canLay_of_shaped (sh x (by simp))) r1) q1
  obtain ⟨bs, rb⟩ := Dp.reads I y _ u2 (Rp.dp _ _ (SeqAt.canLay_of_shaped (sh y (by simp))) r2) q2
  refine min_two_data (I.ok.hd hc) ra rb al (by omega) fun h' tk hk => ?_
  by_cases c : PySem.W.dataLt y x = true
  · rw [if_pos c] at p ⊢
    exact ⟨_, H, I.kept (t' := tk) hk, q2, p _ H .refl wf r2⟩
  · rw [if_neg c] at p ⊢
    exact ⟨_, H, I.kept (t' := tk) hk, q1, p _ H .refl wf r1⟩
/-! ### max(x, default=d) -/
def gMaxD (v d : Val) (S : Sto) : Res Val := match seqOf S v with
  | some q => match q.2.1 with
    | [] => match d with
      | .d y => .ok (.d y) S
      | _ => .no
    | ds => maxDat ds S
  | none => .no
def evMaxD (f g : Sx) : Sx := fun ρ S => (f ρ S).bind fun v S1 => (g ρ S1).bind fun d S2 => match d with
  | .d y => gMaxD v.th (.d y) S2
  | _ => .no
theorem cr_maxD (hc : X.calm = true) (hu : X.A.units + 100 < cLine) : CallRK X (.builtin "max") [(Str.ofString "default")] (fun xs zs H Q => ∃ A S x z v d, xs = [x] ∧ zs = [z] ∧ Wf X.K A S H ∧ Rv X.K A H x v ∧ Rv X.K A H z d ∧ Post X.K A H Q (gMaxD v d S)) := by
  intro pins s σ H xs zs us ws Q I rus rws ⟨A, S, x, z, v, d, e1, e2, wf, rv, rd, p⟩
  subst e1 e2
  obtain ⟨u, rfl, ru⟩ := vals1 rus
  obtain ⟨w, rfl, rw⟩ := vals1 rws
  unfold gMaxD at p
  split at p
  case h_2 => exact p.elim
  rename_i q hq
  obtain ⟨t, ds, g⟩ := q
  obtain ⟨a, ys, rfl, h1, h2⟩ := seq_at hq wf rv
  cases ru
  show wpAny (model X.prog X.w) X.A (call (.builtin "max") [.ref a] [(Str.ofString "default", w)]) (EP X pins σ Q) X.xe s
  dsimp only at p
  have key : PySem.W.AlikeAll ds ∧ (∀ d ∈ ds, SeqAt.shaped d = true) := by
    split at p
    · exact ⟨⟨fun x hx => (by cases hx), fun x hx => (by cases hx)⟩, fun x hx => (by cases hx)⟩
    · rename_i hne
      unfold maxDat at p
      split at p
      · split at p
        · rename_i hal; exact allAlike_ok hal
        · exact p.elim
      · exact p.elim
  obtain ⟨al, sh⟩ := key
  have hdp := shaped_depAll sh
  have lay := shaped_layAll sh
  have fin0 : ds = [] → ∀ h' tk, (∀ b o, s.heap.get? b = some o → h'.get? b = some o) → EP X pins σ Q w { s with heap := h', toks := tk } := fun e h' tk hk => by
    subst e
    dsimp only at p
    split at p
    · rename_i y
      exact ⟨z, H, I.kept (t' := tk) hk, rw, p z H .refl wf rd⟩
    · exact p.elim
  have fin : ∀ its, Vals ys its → ∀ (y : PyData) (zs : List PyData) (i : Nat) v h' tk bs, ds = y :: zs → its[i]? = some v → Reads h' v (PySem.W.maxD y zs) bs → (∀ b o, s.heap.get? b = some o → h'.get? b = some o) → EP X pins σ Q v { s with heap := h', toks := tk } := fun its rv y zs i v h' tk bs e hv hr hk => by
    subst e
    dsimp only [maxDat] at p
    split at p
    case isFalse => exact p.elim
    obtain ⟨z, rz, rp⟩ := item_rp I h1 rv sh al (maxD_in y zs) hv hr hk
    exact ⟨z, H, I.kept (t' := tk) hk, rz, p z H .refl wf rp⟩
  cases t with
  | true =>
    obtain ⟨its, rv, ht, hz⟩ := I.tuple (show SqT X.K H a ys from h2)
    obtain ⟨as, rd⟩ := Dp.readsAll I ds ys its (RpL.dp _ _ lay h1) rv
    exact PySem.W.max_tuple_default (I.ok.hd hc) (show s.heap.IsTuple a its.toArray from ht) (by simpa using rd) al (by omega) fin0 fun y zs i v h' tk bs e hv hr hk => fin its rv y zs i v h' tk bs e (by simpa using hv) hr hk
  | false =>
    obtain ⟨its, rv, pl, hz⟩ := I.list (show SqL X.K H a ys from h2)
    obtain ⟨as, rd⟩ := Dp.readsAll I ds ys its (RpL.dp _ _ lay h1) rv
    exact PySem.W.max_list_default (I.ok.hd hc) pl.isList (by simpa using rd) al (by omega) fin0 fun y zs i v h' tk bs e hv hr hk => fin its rv y zs i v h' tk bs e (by simpa using hv) hr hk
theorem eMaxD {p kp : Pos} (hc : X.calm = true) (hu : X.A.units + 100 < cLine) (hg : Gl X "max") (hm : X.mg "max" = none) (ha : PE X a (tE X.K fa)) (hb : PE X b (tE X.K fb))
    (hs : starEach [a] X.env = (false, eval a X.env) :: starEach [] X.env := by rfl)
    (he : backTo pos (starEach [a] X.env) = (false, eval a X.env) :: backTo pos (starEach [] X.env) := by rfl) (hpl : (backTo pos (starEach [a] X.env)).any (·.1) = false := by rfl) :
    PE X (.Call (.Name "max" p) [a] [⟨some "default", b, kp⟩] pos) (tE X.K (evMaxD fa fb)) :=
  PEi (pe_callBK (cr_maxD hc hu) hg hm (by decide +kernel) (pa_cons ha pa_nil hs) (pk_cons hb pk_nil) (by decide) (by decide) he hpl) fun σ H Q ⟨A, S, ρ, w, env, p⟩ =>
  at_seq (P := Post X.K A H Q) w env p (fun h => h) (fun _ _ h => h) fun v S1 x H1 e1 w1 r1 p1 =>
    at_seq (P := Post X.K A H Q) w1 (env.mono e1) p1 (fun h => h) (fun _ _ h => h) fun d S2 z H2 e2 w2 r2 p2 => by
      cases d with
      | d y => exact ⟨A, S2, x, z, v.th, .d y, rfl, rfl, w2, r1.mono e2, r2, p2.shift (e1.trans e2) w2⟩
      | _ => exact p2.elim
end
end MV
set_option Elab.async false
set_option linter.all false
set_option maxRecDepth 100000
set_option maxHeartbeats 1000000
/-! Readings by mirrors: str of things, how often a text is in a list, constants of the module. -/
namespace MV
open PySem PySem.Spec PyProof.Rows L2
section
variable {X : Cx} {K : Frg} {a b : Expr} {fa fb : Sx} {pos : Pos} {A A' A2 : Wd} {H H' H2 : Hp} {S S' : Sto} {Q : VK} {ρ : Envi} {σ : L2.St} {D : Ends}
open Classical in
noncomputable def gStr : List Val → Sto → Res Val
  | [v], S => match v with
    | .d (.str x) => .ok (.d (.str x)) S
    | v => match asD S v with
      | some d => if d.canLay0 = true ∧ d.showable = true ∧ d.shown.length ≤ sizeLine ∧ d.depth ≤ 64 ∧ (∀ x, d ≠ .str x) then .ok (.d (.str d.shown)) S else .no
      | none => .no
  | _, _ => .no
theorem bStr (hu : X.A.units + 100 < cLine) (gd : X.A.guards = some []) : BRul X (.type "str") gStr := by
  intro pins s σ A S H xs us vs Q I wf rvs rus p
  unfold gStr at p
  split at p
  case h_2 => exact p.elim
  rename_i v0 v _
  cases rvs with | cons r1 r2 =>
  cases r2
  obtain ⟨u, rfl, ru⟩ := vals1 rus
  split at p
  · rename_i x
    have r1 : Rp X.K A.V H _ (.str x) := r1
    cases r1
    obtain ⟨t, rfl⟩ := ru
    exact PySem.P.str_of_str ⟨.str x, H, I, ⟨t, rfl⟩, p _ H .refl wf (.str _)⟩
  split at p
  case h_2 => exact p.elim
  rename_i d hd
  split at p
  case isFalse => exact p.elim
  rename_i c
  obtain ⟨c1, c2, c3, c4, c5⟩ := c
  have dp := asD_dp wf r1 hd c1
  obtain ⟨as, rd⟩ := Dp.reads I d _ u dp ru
  have fin : ∀ h' t k, (∀ b o, s.heap.get? b = some o → h'.get? b = some o) → EP X pins σ Q (.str d.shown t) { s with heap := h', toks := k } := fun h' t k kp =>
    ⟨.str d.shown, H, I.kept kp, ⟨t, rfl⟩, p _ H .refl wf (.str _)⟩
  have fin0 : EP X pins σ Q (.str d.shown s.toks) { s with toks := s.toks + 1 } := ⟨.str d.shown, H, I.tok _, ⟨_, rfl⟩, p _ H .refl wf (.str _)⟩
  cases d with
  | none => cases rd; simp only [PyData.shown] at fin0; exact PySem.P.str_of_none fin0
  | bool b => cases rd; simp only [PyData.shown] at fin0; exact PySem.P.str_of_bool fin0
  | int i =>
    cases rd
    simp only [PyData.shown] at fin0
    exact PySem.P.str_of_int (by simpa [PyData.showable] using c2) fin0
  | str x => exact absurd rfl (c5 x)
  | list ds =>
    cases rd
    all_goals exact str_of_reads (by constructor <;> assumption) c2 (fun z => by rw [PyData.hasDict_of_canLay _ c1] at z; cases z) gd (by omega) (fun _ _ h => h) (fun h' t k kp => fin h' t k kp) c3
  | tuple ds =>
    cases rd
    all_goals exact str_of_reads (by constructor <;> assumption) c2 (fun z => by rw [PyData.hasDict_of_canLay _ c1] at z; cases z) gd (by omega) (fun _ _ h => h) (fun h' t k kp => fin h' t k kp) c3
  | dict ps => simp [PyData.canLay0] at c1
/-! ### list.count of texts -/
def strsOf : List PyData → Option (List Str)
  | [] => some []
  | .str i :: r => (strsOf r).map (i :: ·)
  | _ :: _ => none
theorem strsOf_ok : ∀ {ds : List PyData} {ns : List Str}, strsOf ds = some ns → ds = ns.map .str
  | [], _, h => by cases h; rfl
  | .str i :: r, ns, h => by
    unfold strsOf at h
    cases e : strsOf r with
    | none => rw [e] at h; cases h
    | some ms =>
      rw [e] at h
      cases h
      rw [List.map_cons, ← strsOf_ok e]
  | .int _ :: _, _, h => by cases h
  | .none :: _, _, h => by cases h
  | .bool _ :: _, _, h => by cases h
  | .list _ :: _, _, h => by cases h
  | .tuple _ :: _, _, h => by cases h
  | .dict _ :: _, _, h => by cases h
theorem RpL.strs {L : List Addr} : ∀ {xs : List V} {ns : List Str}, RpL K L H xs (ns.map .str) → xs = ns.map V.str
  | _, [], .nil => rfl
  | _, n :: ns, .cons r t => by
    rw [List.map_cons, ← RpL.strs t, show _ = V.str n from Rp.key (k := .inr n) r rfl]
def gCountS (v : Val) (vs : List Val) (S : Sto) : Res Val := match (asR S v).bind strsOf, vs with
  | some ns, [.d (.str k)] => .ok (.d (.int (ns.countP (· == k) : Nat))) S
  | _, _ => .no
def eqks (k : Str) : Value → Bool
  | .str j _ => j == k
  | _ => false
theorem eqks_gives : ∀ {its : List Value} {ns : List Str} {k : Str} {t : Tok}, Vals (ns.map V.str) its → ∀ y ∈ its, MeetsSeq.EqGives y (.str k t) (eqks k y)
  | _, [], _, _, .nil, y, h => by cases h
  | _, n :: ns, k, t, .cons r rs, y, h => by
    rcases List.mem_cons.mp h with rfl | h
    · obtain ⟨u, rfl⟩ := r
      exact eqGives_str n k u t
    · exact eqks_gives rs y h
theorem eqks_count : ∀ {its : List Value} {ns : List Str} {k : Str}, Vals (ns.map V.str) its → its.countP (eqks k) = ns.countP (· == k)
  | _, [], _, .nil => rfl
  | _, n :: ns, k, .cons r rs => by
    obtain ⟨u, rfl⟩ := r
    rw [List.countP_cons, List.countP_cons, eqks_count rs]
    rfl
theorem mCountS : MRul X "list.count" gCountS := by
  intro pins s σ A S H x xs u us v vs Q I wf rv rvs ru rus p
  unfold gCountS at p
  split at p
  case h_2 => exact p.elim
  rename_i ns k hns
  cases rvs with | cons r1 r2 =>
  cases r2
  have r1 : Rp X.K A.V H _ (.str k) := r1
  cases r1
  obtain ⟨y, rfl, ry⟩ := vals1 rus
  obtain ⟨t, rfl⟩ := ry
  cases hl : asR S v with
  | none => rw [hl] at hns; cases hns
  | some ds =>
    rw [hl] at hns
    obtain ⟨a, ys, rfl, h1, h2⟩ := asR_ok wf rv hl
    cases ru
    have ed := strsOf_ok (show strsOf ds = some ns from hns)
    subst ed
    have ey := RpL.strs h2
    subst ey
    obtain ⟨its, rvl, ⟨⟨cls, dd, data, sl⟩, n, ho, hc, hdn, hd⟩, hlen⟩ := I.list h1
    simp only at hc hd
    subst hc hd
    refine call_meets PySem.F.slot_list_count ⟨_, ho, rfl⟩ PySem.F.entry_list_count (PySem.F.args_list_count_2 _ _) (SeqAt.list_countAt a its.toArray n dd sl (.str k t) (eqks k)) ⟨ho, fun y hy => (eqks_gives rvl y (by simpa using hy)).at _ _, ?_⟩
    refine ⟨.int (ns.countP (· == k) : Nat), H, I.tok _, ⟨s.toks, ?_⟩, p _ H .refl wf (.int _)⟩
    show Value.int ((its.toArray.toList.countP (eqks k) : Nat) : Int) s.toks = Value.int ((ns.countP (· == k) : Nat) : Int) s.toks
    rw [show its.toArray.toList = its from rfl, eqks_count rvl]
/-! ### is True, is not True -/
def gIsB : Val → Val → Sto → Res Val
  | .d (.bool a), .d (.bool b), S => .ok (.d (.bool (a == b))) S
  | _, _, _ => .no
def gNotB : Val → Val → Sto → Res Val
  | .d (.bool a), .d (.bool b), S => .ok (.d (.bool (!(a == b)))) S
  | _, _, _ => .no
theorem oIsB : ORul X (compareOp .Is) gIsB := by
  intro pins s σ A S H x y u u' v w Q I wf rv rw ru ru' p
  unfold gIsB at p
  split at p
  · rename_i a b
    have e1 := Rp.bl_inv (show Rp X.K A.V H x (.bool a) from rv)
    have e2 := Rp.bl_inv (show Rp X.K A.V H y (.bool b) from rw)
    subst e1 e2
    cases ru
    cases ru'
    show wpAny _ _ ((isSame (Value.bool a) (Value.bool b)) >>= fun z => pure (Value.bool z)) _ _ s
    exact wpAny_bind (wpAny_isSame_plain rfl (wpAny_pure ⟨.bl (a == b), H, I, (by cases a <;> cases b <;> rfl), p _ H .refl wf (.bl _)⟩))
  · exact p.elim
theorem oNotB : ORul X (compareOp .IsNot) gNotB := by
  intro pins s σ A S H x y u u' v w Q I wf rv rw ru ru' p
  unfold gNotB at p
  split at p
  · rename_i a b
    have e1 := Rp.bl_inv (show Rp X.K A.V H x (.bool a) from rv)
    have e2 := Rp.bl_inv (show Rp X.K A.V H y (.bool b) from rw)
    subst e1 e2
    cases ru
    cases ru'
    show wpAny _ _ ((isSame (Value.bool a) (Value.bool b)) >>= fun z => pure (Value.bool (!z))) _ _ s
    exact wpAny_bind (wpAny_isSame_plain rfl (wpAny_pure ⟨.bl (!(a == b)), H, I, (by cases a <;> cases b <;> rfl), p _ H .refl wf (.bl _)⟩))
  · exact p.elim
/-! ### constants of the module -/
theorem eCstI {x : Str} {i : Int} {pos : Pos} (hg : Gl X x) (hm : ∃ t, X.mg x = some (.int i t)) (hd : (x == ("__debug__" : Str)) = false := by decide) : PE X (.Name x pos) (tE X.K (evK (.int i))) := by
  obtain ⟨t, hm⟩ := hm
  exact eC (v := .int i) (pe_glob hg hm ⟨t, rfl⟩ hd) fun _ _ => .int i
end
end MV
set_option Elab.async false
set_option linter.all false
set_option maxRecDepth 100000
/-! Readings by mirrors: constants of the module that are tuples of texts. -/
namespace MV
open PySem PySem.Spec PyProof.Rows L2
section
variable {X : Cx} {K : Frg}
theorem rpL_str {A : List Addr} {H : Hp} : ∀ xs : List Str, RpL K A H (xs.map V.str) (xs.map PyData.str)
  | [] => .nil
  | x :: xs => .cons (.str x) (rpL_str xs)
theorem eCstT {x : Str} (xs : List Str) {pos : Pos} (hg : Gl X x) (hm : ∃ a, X.mg x = some (.ref a) ∧ KTup X.K a (xs.map V.str)) (hd : (x == ("__debug__" : Str)) = false := by decide) : PE X (.Name x pos) (tE X.K (evK (.tuple (xs.map PyData.str)))) := by
  obtain ⟨a, hm, ht⟩ := hm
  exact eC (v := .ref a) (pe_glob hg hm rfl hd) fun _ _ => .tup (.inr ht) (rpL_str xs)
theorem ktup_two {a : Addr} {od : Option Addr} {x y : Str} {t u : Tok} {n : Nat} {sl : Array (Option Value)} (h : K.lookup a = some ⟨.type "tuple", od, .seq #[.str x t, .str y u] n, sl⟩) : KTup K a [.str x, .str y] :=
  .inr ⟨_, _, n, h, rfl, rfl, (by decide : (2 : Nat) ≤ sizeLine), .cons ⟨t, rfl⟩ (.cons ⟨u, rfl⟩ .nil)⟩
end
end MV
set_option Elab.async false
set_option linter.all false
set_option maxRecDepth 100000
/-! Readings by mirrors: dicts of which an item may be a cell (written out, read, stored into). -/
namespace MV
open PySem PySem.Spec PyProof.Rows L2
section
variable {X : Cx} {K : Frg} {a b : Expr} {fa fb : Sx} {pos : Pos} {A A' A2 W W' : Wd} {H H' H2 : Hp} {S S' : Sto} {Q : VK} {ρ : Envi} {σ : L2.St} {D : Ends}
def Itm.val : Itm → Val
  | .d x => .d x
  | .c n => .c n
def rLook (ps : List (Key × Itm)) (k : Key) : Option Itm := (ps.find? fun p => decide (p.1 = k)).map (·.2)
def rPut (ps : List (Key × Itm)) (k : Key) (i : Itm) : List (Key × Itm) :=
  if (rLook ps k).isSome then ps.map fun p => if p.1 = k then (p.1, i) else p else ps ++ [(k, i)]
def rPutAll (ps : List (Key × Itm)) : List (Key × Itm) → List (Key × Itm)
  | [] => ps
  | q :: qs => rPutAll (rPut ps q.1 q.2) qs
abbrev VR (K : Frg) (W : Wd) (H : Hp) : List (Key × V) → List (Key × Itm) → Prop := Paired fun p q => p.1 = q.1 ∧ ItmOk K W H p.2 q.2
theorem ItmOk.kp {v : V} {i : Itm} (e : Kp W.V H W'.V H') (hA : W'.A = W.A) (r : ItmOk K W H v i) : ItmOk K W' H' v i := by
  cases i with
  | d x => exact Rp.mono e r
  | c n => obtain ⟨a, h, rfl⟩ := r; exact ⟨a, by rw [hA]; exact h, rfl⟩
theorem VR.kp {kvs : List (Key × V)} {ps : List (Key × Itm)} (e : Kp W.V H W'.V H') (hA : W'.A = W.A) (r : VR K W H kvs ps) : VR K W' H' kvs ps := Paired.mapP r fun _ _ h => ⟨h.1, h.2.kp e hA⟩
theorem VR.look {k : Key} : ∀ {kvs : List (Key × V)} {ps : List (Key × Itm)}, VR K W H kvs ps → (rLook ps k = none ∧ valV kvs k = none) ∨ ∃ i v, rLook ps k = some i ∧ valV kvs k = some v ∧ ItmOk K W H v i
  | _, _, .nil => .inl ⟨rfl, rfl⟩
  | p :: kvs, q :: ps, .cons h t => by
    by_cases e : p.1 = k
    · exact .inr ⟨q.2, p.2, by simp [rLook, ← h.1, e], valV_pos e, h.2⟩
    · have e' : ¬ q.1 = k := fun z => e (h.1.trans z)
      have h1 : rLook (q :: ps) k = rLook ps k := by simp [rLook, e']
      rw [h1, valV_neg e]
      exact VR.look t
theorem VR.repl {k : Key} {v : V} {i : Itm} (ri : ItmOk K W H v i) : ∀ {kvs : List (Key × V)} {ps : List (Key × Itm)}, VR K W H kvs ps →
    VR K W H (kvs.map fun kv => if kv.1 = k then (kv.1, v) else kv) (ps.map fun p => if p.1 = k then (p.1, i) else p)
  | _, _, .nil => .nil
  | p :: kvs, q :: ps, .cons h t => by
    rw [List.map_cons, List.map_cons]
    by_cases e : p.1 = k
    · rw [if_pos e, if_pos (h.1.symm.trans e)]
      exact .cons ⟨h.1, ri⟩ (VR.repl ri t)
    · rw [if_neg e, if_neg (fun z => e (h.1.trans z))]
      exact .cons h (VR.repl ri t)
theorem VR.put {k : Key} {v : V} {i : Itm} (ri : ItmOk K W H v i) {kvs : List (Key × V)} {ps : List (Key × Itm)} (r : VR K W H kvs ps) : VR K W H (putK kvs k v) (rPut ps k i) := by
  unfold putK rPut
  rw [valV_any]
  rcases r.look (k := k) with ⟨h1, h2⟩ | ⟨d, u, h1, h2, _⟩
  · rw [h1, h2]
    exact Paired.snoc r ⟨rfl, ri⟩
  · rw [h1, h2]
    exact r.repl ri
theorem VR.puts : ∀ {kvs : List (Key × V)} {qs : List (Key × Itm)} {lvs : List (Key × V)} {ps : List (Key × Itm)}, VR K W H kvs qs → VR K W H lvs ps → VR K W H (mergeK lvs kvs) (rPutAll ps qs)
  | _, _, _, _, .nil, r => by simpa [mergeK, rPutAll] using r
  | (k, v) :: kvs, (j, y) :: qs, _, _, .cons ⟨e, q⟩ t, r => by
    have e : k = j := e
    subst e
    exact VR.puts (kvs := kvs) (qs := qs) t (r.put q)
/-! ### d[k] -/
def rIx (S : Sto) (v w : Val) : Option Val := match v with
  | .c n => match S[n]? with
    | some (.rcd ps) => match w with
      | .d y => match kOf y with
        | some k => (rLook ps k).map Itm.val
        | none => none
      | _ => none
    | _ => none
  | _ => none
def gIxR : Val → Val → Sto → Res Val := fun v w S => match rIx S v w with
  | some z => .ok z S
  | none => gIx v w S
theorem xIxR (hu : X.A.units + 1 < cLine) : IxR X (rO X.K gIxR) := by
  intro value slice pins s σ H x y u u' Q I ru ru' ⟨A, S, v, w, wf, rv, rw, p⟩ hs
  unfold gIxR at p
  split at p
  · rename_i z hz
    unfold rIx at hz
    split at hz
    case h_2 => cases hz
    rename_i n
    split at hz
    case h_2 => cases hz
    rename_i ps hps
    split at hz
    case h_2 => cases hz
    rename_i y'
    split at hz
    case h_2 => cases hz
    rename_i k hk
    obtain ⟨a, ha, e1⟩ := rv
    subst e1
    obtain ⟨kvs, g1, r1⟩ := wf.ok n a _ ha hps
    cases ru
    have e2 := Rp.key rw hk
    subst e2
    have r1 : VR X.K A H kvs ps := r1
    rcases r1.look (k := k) with ⟨h1, h2⟩ | ⟨d', zz, h1, h2, h3⟩
    · rw [h1] at hz; cases hz
    · rw [h1] at hz
      cases hz
      have g : DGet H a (kV k) (some zz) := by
        have g := DGet.k (k := k) g1
        rwa [h2] at g
      refine tail_any (dict_typeIs I g) slot_dict_getitem.lookup (d_getItem hu I g ru' fun w' s' I' r' => ⟨zz, H, I', r', ?_⟩) hs
      cases d' with
      | d x => exact p zz H .refl wf h3
      | c m => obtain ⟨b, hb, rfl⟩ := h3; exact p b H .refl wf hb
  · exact xIx hu value slice pins s σ H x y u u' Q I ru ru' ⟨A, S, v, w, wf, rv, rw, p⟩ hs
theorem eIxR (hu : X.A.units + 100 < cLine) (ha : PE X a (tE X.K fa)) (hb : PE X b (tE X.K fb)) (hs : PlainIx b := by exact fun _ _ => rfl) : PE X (.Subscript a b pos) (tE X.K (ev2 gIxR fa fb)) := PEi (pe_ix (xIxR (by omega)) ha hb hs) fun _ _ _ => ev2_ok
/-! ### d[k] = v -/
def gPutR (v i x : Val) (S : Sto) : Option Sto := match v, i, x with
  | .c n, .d z, .d y => match S[n]? with
    | some (.rcd ps) => match kOf z with
      | some k => if ps.length < sizeLine ∧ (Cell.rcd (rPut ps k (.d y))).lt n = true then some (S.set n (.rcd (rPut ps k (.d y)))) else none
      | none => none
    | _ => none
  | _, _, _ => none
def rPR (K : Frg) : V → V → V → Hp → (Hp → Prop) → Prop := fun o i x H Q => ∃ A S v w y S', Wf K A S H ∧ Rv K A H o v ∧ Rv K A H i w ∧ Rv K A H x y ∧ gPutR v w y S = some S' ∧ ∀ H', Ext A H A H' → Wf K A S' H' → Q H'
theorem set_rcd (hu : X.A.units + 1 < cLine) : PSet X (rPR X.K) := by
  intro pins s σ H o i x ov iv xv Q I ro ri rx ⟨A, S, v, w, y, S', wf, rv, rw, ry, hp, q⟩
  unfold gPutR at hp
  split at hp
  case h_2 => cases hp
  rename_i n z y'
  split at hp
  case h_2 => cases hp
  rename_i ps hps
  split at hp
  case h_2 => cases hp
  rename_i k hk
  split at hp
  case isFalse => cases hp
  rename_i hl
  cases hp
  obtain ⟨a, ha, e1⟩ := rv
  subst e1
  have ma : a ∈ A.A := List.mem_of_getElem? ha
  obtain ⟨kvs, h2, h3⟩ := wf.ok n a _ ha hps
  have h3 : VR X.K A H kvs ps := h3
  have e2 := Rp.key rw hk
  subst e2
  cases ro
  have hl' : kvs.length < sizeLine := by rw [Paired.length h3]; exact hl.1
  have ry : ItmOk X.K A H x (.d y') := ry
  exact d_setItem hu I (DPut.k (v := x) h2 hl') ri rx fun s' I' => ⟨_, I', q _ (.upd ma) (wf.upd ha ⟨_, upd_same, (h3.put ry).kp (kp_upd ma) rfl⟩ hl.2)⟩
def sPutQ (fo fi fe : Sx) : Ss := fun ρ S => (fe ρ S).bind fun x S1 => (fo ρ S1).bind fun v S2 => (fi ρ S2).bind fun i S3 => match gPutR v.th i.th x.th S3 with
  | some S4 => .ok (.nx ρ) S4
  | none => .no
theorem sPutQR {o i : Expr} {fo fi : Sx} {p2 : Pos} (hu : X.A.units + 100 < cLine) (ho : PE X o (tE X.K fo)) (hi : PE X i (tE X.K fi)) (he : PE X a (tE X.K fa))
    (hx : ∀ v, assign (.Subscript o i p2) X.env v = (do
      let ov ← holding [v] (eval o X.env)
      let iv ← holding [v, ov] (eval i X.env)
      standAt p2
      holding [v, ov, iv] (setItem ov iv v)
      release [v, ov, iv] []) := by intro _; rfl)
    (hs : swapsWithSole [.Subscript o i p2] a pos.line X.env = pure false := by rfl) (hw : swappedStores [.Subscript o i p2] a X.env = pure none := by rfl)
    (h1 : (assignEach [.Subscript o i p2] X.env).map (·.2) = [assign (.Subscript o i p2) X.env] := by rfl) : PS X (.Assign [.Subscript o i p2] a pos) (tS X.K (sPutQ fo fi fa)) :=
  PSi (ps_asg he (pg_sub ho hi (set_rcd (by omega)) hx) hs hw h1) fun D σ H ⟨A, S, ρ, w, env, p⟩ =>
  at_seq (P := PostS X.K A H D) w env p (fun h => h) (fun _ _ h => h) fun x S1 xv H1 e1 w1 r1 p1 =>
    at_seq (P := PostS X.K A H D) w1 (env.mono e1) p1 (fun h => h) (fun _ _ h => h) fun v S2 ov H2 e2 w2 r2 p2 =>
      at_seq (P := PostS X.K A H D) w2 ((env.mono e1).mono e2) p2 (fun h => h) (fun _ _ h => h) fun i S3 iv H3 e3 w3 r3 p3 => by
        split at p3
        · rename_i S4 h4
          refine ⟨A, S3, v.th, i.th, x.th, S4, w3, r2.mono e3, r3, r1.mono (e2.trans e3), h4, fun H4 e4 w4 => ?_⟩
          have e := ((e1.trans e2).trans e3).trans e4
          exact p3 A σ H4 e w4 (env.mono e)
        · exact p3.elim
/-! ### {k: v, ..} with cells -/
abbrev SR := Envi → Sto → Res (List (Key × Itm))
def PostDR (K : Frg) (A : Wd) (H : Hp) (Q : List (V × V) → Hp → Prop) : Res (List (Key × Itm)) → Prop
  | .ok qs S => ∀ kvs H', Ext A H A H' → Wf K A S H' → VR K A H' kvs qs → Q (kvs.map fun kv => (kV kv.1, kv.2)) H'
  | .exc _ _ => False
  | .no => False
theorem PostDR.seq {β : Type} {P : Res β → Prop} {Q : List (V × V) → Hp → Prop} {r : Res (List (Key × Itm))} {g : List (Key × Itm) → Sto → Res β} (h : P (r.bind g)) (h0 : P .no → False) (h1 : ∀ e S, P (.exc e S) → False)
    (k : ∀ qs S1 kvs H1, Ext A H A H1 → Wf K A S1 H1 → VR K A H1 kvs qs → P (g qs S1) → Q (kvs.map fun kv => (kV kv.1, kv.2)) H1) : PostDR K A H Q r := by
  cases r with
  | ok v S1 => exact fun x H1 e w r => k v S1 x H1 e w r h
  | exc e S => exact (h1 _ _ h).elim
  | no => exact (h0 h).elim
def tDR (K : Frg) (f : SR) : L2.St → Hp → (List (V × V) → Hp → Prop) → Prop := fun σ H Q => At K σ H fun A ρ S => PostDR K A H Q (f ρ S)
def PDR (X : Cx) (pos : Pos) (keys : List (Option Expr)) (values : List Expr) (f : SR) : Prop := ∃ trs, PPs X pos keys values trs ∧ ∀ σ H Q, tDR X.K f σ H Q → tPairs trs σ H Q
def itmOf : Val → Option Itm
  | .d x => some (.d x)
  | .c n => some (.c n)
  | _ => none
def rNil : SR := fun _ S => .ok [] S
def rCons (fk fv : Sx) (g : SR) : SR := fun ρ S => (fk ρ S).bind fun v S1 => (fv ρ S1).bind fun w S2 => (g ρ S2).bind fun r S3 => match v.th, itmOf w.th with
  | .d x, some i => match kOf x with
    | some k => .ok ((k, i) :: r) S3
    | none => .no
  | _, _ => .no
theorem ddRN : PDR X pos [] [] rNil := ⟨[], pps_nil, fun σ H Q ⟨A, S, ρ, w, env, p⟩ => p [] H .refl w .nil⟩
theorem itm_ok {v : Val} {i : Itm} {x : V} (h : itmOf v = some i) (r : Rv K A H x v) : ItmOk K A H x i := by
  cases v <;> cases h <;> exact r
theorem ddRC {k v : Expr} {ks : List (Option Expr)} {vs : List Expr} {fk fv : Sx} {g : SR} (hk : PE X k (tE X.K fk)) (hv : PE X v (tE X.K fv)) (hr : PDR X pos ks vs g) : PDR X pos (some k :: ks) (v :: vs) (rCons fk fv g) := by
  obtain ⟨trs, h1, h2⟩ := hr
  refine ⟨_, pps_cons hk hv h1, fun σ H Q ⟨A, S, ρ, w, env, p⟩ => ?_⟩
  refine at_seq (P := PostDR X.K A H Q) w env p (fun h => h) (fun _ _ h => h) fun x S1 xv H1 e1 w1 r1 p1 => ?_
  refine at_seq (P := PostDR X.K A H Q) w1 (env.mono e1) p1 (fun h => h) (fun _ _ h => h) fun y S2 yv H2 e2 w2 r2 p2 => ?_
  refine h2 _ _ _ ⟨A, S2, ρ, w2, (env.mono e1).mono e2, PostDR.seq (P := PostDR X.K A H Q) p2 (fun h => h) (fun _ _ h => h) fun qs S3 kvs H3 e3 w3 r3 p3 => ?_⟩
  split at p3
  case h_2 => exact p3.elim
  rename_i a i ha hb
  split at p3
  case h_2 => exact p3.elim
  rename_i k' hk'
  rw [ha] at r1
  have r1 : Rp X.K A.V H1 xv a := r1
  have r2 := itm_ok hb r2
  rw [Rp.key r1 hk']
  exact p3 ((k', yv) :: kvs) H3 ((e1.trans e2).trans e3) w3 (.cons ⟨rfl, r2.kp e3.kp rfl⟩ r3)
def evDicR (f : SR) : Sx := fun ρ S => (f ρ S).bind fun qs S1 => if qs.length ≤ 15 ∧ (Cell.rcd (rPutAll [] qs)).lt S1.length = true then .ok (.f (.rcd (rPutAll [] qs))) S1 else .no
theorem eDicR {keys : List (Option Expr)} {values : List Expr} {f : SR} (h : PDR X pos keys values f) (hall : keys.all (·.isSome) = true := by rfl) (hl : keys.length = values.length := by rfl) (h0 : keys ≠ [] := by exact List.cons_ne_nil _ _)
    (h15 : keys.length ≤ 15 := by decide) : PE X (.Dict keys values pos) (tE X.K (evDicR f)) := by
  obtain ⟨trs, h1, h2⟩ := h
  refine PEi (pe_disp h1 hall hl h0 h15) fun σ H Q ⟨A, S, ρ, w, env, p⟩ => fun q hq => ?_
  obtain ⟨wP, kP⟩ := w.protNew (u := .dK []) trivial hq
  refine h2 _ _ _ ⟨A.prot q, S, ρ, wP, env.kx kP, ?_⟩
  dsimp only [evDicR] at p
  show PostDR X.K (A.prot q) _ _ (f ρ S)
  cases hf : f ρ S with
  | no => rw [hf] at p; exact p
  | exc e S1 => rw [hf] at p; exact p
  | ok qs S1 =>
    rw [hf] at p
    have p : Post X.K A H Q (if qs.length ≤ 15 ∧ (Cell.rcd (rPutAll [] qs)).lt S1.length = true then .ok (.f (.rcd (rPutAll [] qs))) S1 else .no) := p
    split at p
    case isFalse => exact p.elim
    rename_i hl15
    intro kvs H2 e2 w2 r2
    have nq : q ∉ (A.prot q).A := (w2.pr q (List.mem_cons_self)).1
    have at2 : H2 q = some (.dK []) := e2.keep q _ upd_same nq
    refine ⟨at2, kvs, rfl, by rw [Paired.length r2]; exact hl15.1, ?_⟩
    obtain ⟨w3, k3⟩ := w2.protUpd (p := q) (u := .dK (mergeK [] kvs)) trivial (List.mem_cons_self)
    have e : Ext A H A (L2.upd H2 q (.dK (mergeK [] kvs))) := ⟨rfl, ⟨[], by simp⟩, fun _ h => .inl h, fun b o hb nb => by
      rw [upd_ne (ne_of_none hb hq)]
      exact e2.keep b o (by rw [upd_ne (ne_of_none hb hq)]; exact hb) nb⟩
    exact p q _ e (w3.protOut (k := .rcd _) ⟨_, upd_same, VR.puts (r2.kp k3.2 rfl) .nil⟩ (fun m => w.off hq (Wd.mem.mpr (.inl m))) hl15.2) hq
end
end MV
set_option Elab.async false
set_option linter.all false
set_option maxRecDepth 100000
/-! Readings by mirrors: dicts whose keys are pairs of numbers. -/
namespace MV
open PySem PySem.Spec PyProof.Rows L2
section
variable {X : Cx} {K : Frg} {a b : Expr} {fa fb : Sx} {pos : Pos} {A A' A2 W W' : Wd} {H H' H2 : Hp} {S S' : Sto} {Q : VK} {ρ : Envi} {σ : L2.St} {D : Ends}
/-- no written tuple of the program is a pair of numbers -/
def pairV : List Value → Bool
  | [.int _ _, .int _ _] => true
  | _ => false
def pairO (o : Obj) : Bool := match o.data with
  | .seq its _ => pairV its.toList
  | _ => false
def noPair (K : Frg) : Bool := K.all fun p => !pairO p.2
theorem look_mem {α : Type} {a : Addr} {o : α} : ∀ {K : List (Addr × α)}, K.lookup a = some o → (a, o) ∈ K
  | (b, u) :: K, h => by
    rw [List.lookup_cons] at h
    split at h
    · rename_i e
      cases h
      rw [eq_of_beq e]
      exact List.mem_cons_self
    · exact List.mem_cons_of_mem _ (look_mem h)
def pOf : PyData → Option (Int × Int)
  | .tuple [.int a, .int b] => some (a, b)
  | _ => none
theorem pOf_eq {d : PyData} {k : Int × Int} (h : pOf d = some k) : d = .tuple [.int k.1, .int k.2] := by
  unfold pOf at h
  split at h
  · cases h; rfl
  · cases h
abbrev tkey (p : Int × Int) : List Key := [.inl p.1, .inl p.2]
theorem tkey_inj {p q : Int × Int} : tkey p = tkey q ↔ p = q := by
  constructor
  · intro h
    simp [tkey] at h
    exact Prod.ext h.1 h.2
  · rintro rfl; rfl
theorem Rp.pair {L : List Addr} {x : V} {k : Int × Int} (np : noPair K = true) (r : Rp K L H x (.tuple [.int k.1, .int k.2])) : ∃ t, x = .ref t ∧ H t = some (.tup ((tkey k).map kV)) ∧ t ∉ L := by
  cases r with
  | tup h t =>
    have e := t.ints (ns := [k.1, k.2])
    subst e
    rcases h with ⟨h | h, n⟩ | h
    · exact ⟨_, rfl, h, n⟩
    · exact h.elim
    · rcases h with (h | ⟨o, h⟩) | ⟨o, its, n, h1, h2, h3, h4, h5⟩
      · cases h
      · cases h
      · exfalso
        have m := List.all_eq_true.mp np _ (look_mem h1)
        have h5 : Vals [V.int k.1, V.int k.2] its.toList := h5
        generalize hl : its.toList = l at h5
        cases h5 with | cons q1 h5 =>
        cases h5 with | cons q2 h5 =>
        cases h5
        obtain ⟨t1, rfl⟩ := q1
        obtain ⟨t2, rfl⟩ := q2
        have m : (!pairO o) = true := m
        unfold pairO at m
        rw [h3] at m
        dsimp only at m
        rw [hl] at m
        cases m
abbrev VT (K : Frg) (L : List Addr) (H : Hp) : List (List Key × V) → List ((Int × Int) × PyData) → Prop := Paired fun p q => p.1 = tkey q.1 ∧ Rp K L H p.2 q.2
def putT (ps : List ((Int × Int) × PyData)) (k : Int × Int) (y : PyData) : List ((Int × Int) × PyData) :=
  if (ps.any fun p => decide (p.1 = k)) = true then ps.map (fun p => if p.1 = k then (p.1, y) else p) else ps ++ [(k, y)]
def putAllT (ps : List ((Int × Int) × PyData)) : List ((Int × Int) × PyData) → List ((Int × Int) × PyData)
  | [] => ps
  | (k, y) :: r => putAllT (putT ps k y) r
theorem VT.any {L : List Addr} {k : Int × Int} : ∀ {kvs : List (List Key × V)} {ps : List ((Int × Int) × PyData)}, VT K L H kvs ps → (kvs.any fun kv => decide (kv.1 = tkey k)) = (ps.any fun p => decide (p.1 = k))
  | _, _, .nil => rfl
  | p :: kvs, q :: ps, .cons h t => by
    rw [List.any_cons, List.any_cons, VT.any t, h.1]
    congr 1
    rw [Bool.eq_iff_iff, decide_eq_true_iff, decide_eq_true_iff]
    exact tkey_inj
theorem VT.repl {L : List Addr} {k : Int × Int} {v : V} {y : PyData} (ry : Rp K L H v y) : ∀ {kvs : List (List Key × V)} {ps : List ((Int × Int) × PyData)}, VT K L H kvs ps →
    VT K L H (kvs.map fun kv => if kv.1 = tkey k then (kv.1, v) else kv) (ps.map fun p => if p.1 = k then (p.1, y) else p)
  | _, _, .nil => .nil
  | p :: kvs, q :: ps, .cons h t => by
    rw [List.map_cons, List.map_cons]
    by_cases e : q.1 = k
    · rw [if_pos e, if_pos (h.1.trans (by rw [e]))]
      exact .cons ⟨h.1, ry⟩ (VT.repl ry t)
    · rw [if_neg e, if_neg (fun z => e (tkey_inj.mp (h.1.symm.trans z)))]
      exact .cons h (VT.repl ry t)
theorem VT.put {L : List Addr} {k : Int × Int} {v : V} {y : PyData} (ry : Rp K L H v y) {kvs : List (List Key × V)} {ps : List ((Int × Int) × PyData)} (r : VT K L H kvs ps) : VT K L H (putK kvs (tkey k) v) (putT ps k y) := by
  unfold putK putT
  rw [r.any]
  by_cases c : (ps.any fun p => decide (p.1 = k)) = true
  · rw [if_pos c, if_pos c]
    exact r.repl ry
  · rw [if_neg c, if_neg c]
    exact Paired.snoc r ⟨rfl, ry⟩
theorem VT.mono {L L' : List Addr} {kvs : List (List Key × V)} {ps : List ((Int × Int) × PyData)} (k : Kp L H L' H') (r : VT K L H kvs ps) : VT K L' H' kvs ps := Paired.mapP r fun _ _ z => ⟨z.1, z.2.mono k⟩
/-! ### d[(a, b)] = v -/
def gPutT (v i x : Val) (S : Sto) : Option Sto := match v, i, x with
  | .c n, .d z, .d y => match pOf z with
    | some k => match S[n]? with
      | some (.dic []) => some (S.set n (.dtp [(k, y)]))
      | some (.dtp ps) => if ps.length < sizeLine then some (S.set n (.dtp (putT ps k y))) else none
      | _ => none
    | none => none
  | _, _, _ => none
def rPT (K : Frg) : V → V → V → Hp → (Hp → Prop) → Prop := fun o i x H Q => ∃ A S v w y S', Wf K A S H ∧ Rv K A H o v ∧ Rv K A H i w ∧ Rv K A H x y ∧ gPutT v w y S = some S' ∧ ∀ H', Ext A H A H' → Wf K A S' H' → Q H'
/-- an empty dict is to be one of pairs -/
theorem as_dT {pins : List (Addr × Obj)} {s : Shared} {d : Addr} (I : Inv X pins σ H s) (h : H d = some (.dK [])) : Inv X pins σ (upd H d (.dT [])) s := by
  obtain ⟨z, lo, vs, kv, o, es, ep, ho, hx, hd, r⟩ := (show ObjOk X.prog X.w H s.heap d (.dK []) from I.hok d _ h)
  cases kv
  have he : es.toList = [] := by
    obtain ⟨_, r2, _⟩ := r
    have := r2.length
    exact List.length_eq_zero_iff.mp (by simpa using this)
  have W := I.write (x := d) (e := d) (o := .dT []) (t' := s.toks) (h' := s.heap) (by rw [h]; exact True.intro) (.inl rfl) (fun b u _ e => e) ⟨o, ho⟩ ⟨Nat.zero_le _, lo, [], .nil, o, es, ep, ho, hx, hd, by rw [he]; rfl, List.nodup_nil⟩
  exact W
theorem set_dtp (hu : X.A.units + 1 < cLine) (np : noPair X.K = true) : PSet X (rPT X.K) := by
  intro pins s σ H o i x ov iv xv Q I ro ri rx ⟨A, S, v, w, y, S', wf, rv, rw, ry, hp, q⟩
  unfold gPutT at hp
  split at hp
  case h_2 => cases hp
  rename_i n z y'
  split at hp
  case h_2 => cases hp
  rename_i k hk
  have ez := pOf_eq hk
  subst ez
  obtain ⟨t, rfl, ht, tL⟩ := Rp.pair np (show Rp X.K A.V H i _ from rw)
  obtain ⟨a, ha, e1⟩ := rv
  subst e1
  cases ro
  have ma : a ∈ A.A := List.mem_of_getElem? ha
  have ry : Rp X.K A.V H x y' := ry
  split at hp
  · rename_i hps
    cases hp
    obtain ⟨kvs, h2, h3⟩ := wf.ok n a _ ha hps
    cases h3
    have I2 := as_dT I h2
    have ne : t ≠ a := ne_of ht h2 (fun z => nomatch z)
    refine d_setItem hu I2 (DPut.t (v := x) (k := tkey k) upd_same (by rw [upd_ne ne]; exact ht) (by decide)) ri rx fun s' I' => ⟨_, I', ?_⟩
    rw [upd_upd]
    exact q _ (.upd ma) (wf.upd ha ⟨_, upd_same, .cons ⟨rfl, ry.mono (kp_upd ma)⟩ .nil⟩)
  · rename_i ps hps
    split at hp
    case isFalse => cases hp
    rename_i hl
    cases hp
    obtain ⟨kvs, h2, h3⟩ := wf.ok n a _ ha hps
    have h3 : VT X.K A.V H kvs ps := h3
    have hl' : kvs.length < sizeLine := by rw [Paired.length h3]; exact hl
    exact d_setItem hu I (DPut.t (v := x) (k := tkey k) h2 ht hl') ri rx fun s' I' => ⟨_, I', q _ (.upd ma) (wf.upd ha ⟨_, upd_same, (h3.put ry).mono (kp_upd ma)⟩)⟩
  · cases hp
def sPutT (fo fi fe : Sx) : Ss := fun ρ S => (fe ρ S).bind fun x S1 => (fo ρ S1).bind fun v S2 => (fi ρ S2).bind fun i S3 => match gPutT v.th i.th x.th S3 with
  | some S4 => .ok (.nx ρ) S4
  | none => .no
theorem sPutTR {o i : Expr} {fo fi : Sx} {p2 : Pos} (hu : X.A.units + 100 < cLine) (np : noPair X.K = true) (ho : PE X o (tE X.K fo)) (hi : PE X i (tE X.K fi)) (he : PE X a (tE X.K fa))
    (hx : ∀ v, assign (.Subscript o i p2) X.env v = (do
      let ov ← holding [v] (eval o X.env)
      let iv ← holding [v, ov] (eval i X.env)
      standAt p2
      holding [v, ov, iv] (setItem ov iv v)
      release [v, ov, iv] []) := by intro _; rfl)
    (hs : swapsWithSole [.Subscript o i p2] a pos.line X.env = pure false := by rfl) (hw : swappedStores [.Subscript o i p2] a X.env = pure none := by rfl)
    (h1 : (assignEach [.Subscript o i p2] X.env).map (·.2) = [assign (.Subscript o i p2) X.env] := by rfl) : PS X (.Assign [.Subscript o i p2] a pos) (tS X.K (sPutT fo fi fa)) :=
  PSi (ps_asg he (pg_sub ho hi (set_dtp (by omega) np) hx) hs hw h1) fun D σ H ⟨A, S, ρ, w, env, p⟩ =>
  at_seq (P := PostS X.K A H D) w env p (fun h => h) (fun _ _ h => h) fun x S1 xv H1 e1 w1 r1 p1 =>
    at_seq (P := PostS X.K A H D) w1 (env.mono e1) p1 (fun h => h) (fun _ _ h => h) fun v S2 ov H2 e2 w2 r2 p2 =>
      at_seq (P := PostS X.K A H D) w2 ((env.mono e1).mono e2) p2 (fun h => h) (fun _ _ h => h) fun i S3 iv H3 e3 w3 r3 p3 => by
        split at p3
        · rename_i S4 h4
          refine ⟨A, S3, v.th, i.th, x.th, S4, w3, r2.mono e3, r3, r1.mono (e2.trans e3), h4, fun H4 e4 w4 => ?_⟩
          have e := ((e1.trans e2).trans e3).trans e4
          exact p3 A σ H4 e w4 (env.mono e)
        · exact p3.elim
/-! ### dict of pairs of pairs -/
def pairsT : List PyData → Option (List ((Int × Int) × PyData))
  | [] => some []
  | .tuple [z, y] :: r => match pOf z, pairsT r with
    | some k, some qs => some ((k, y) :: qs)
    | _, _ => none
  | _ => none
def gDictT : List Val → Sto → Res Val
  | [v], S => match (asL S v).bind pairsT with
    | some qs => .ok (.f (.dtp (putAllT [] qs))) S
    | none => .no
  | _, _ => .no
/-- what stands for such a list: the pairs' addresses, their keys', what is told -/
theorem pairsT_ok (np : noPair K = true) {L : List Addr} : ∀ {ds : List PyData} {qs : List ((Int × Int) × PyData)} {ys : List V}, pairsT ds = some qs → RpL K L H ys ds →
    ∃ (ts : List Addr) (kvs : List (List Key × V)) (bs : List Addr), ys = ts.map V.ref ∧ VT K L H kvs qs ∧ Paired (fun t kb => SqT K H t [.ref kb.2, kb.1.2] ∧ H kb.2 = some (.tup (kb.1.1.map kV))) ts (kvs.zip bs) ∧ bs.length = kvs.length
  | [], _, _, h, r => by cases h; cases r; exact ⟨[], [], [], rfl, .nil, .nil, rfl⟩
  | .tuple [z, y] :: ds, qs, _, h, r => by
    unfold pairsT at h
    split at h
    case h_2 => cases h
    rename_i k qs' hk hq
    cases h
    cases r with | cons r1 r2 =>
    obtain ⟨ts, kvs, bs, rfl, e2, e3, e4⟩ := pairsT_ok np hq r2
    have ez := pOf_eq hk
    subst ez
    cases r1 with
    | tup l t =>
      cases t with | cons q1 t =>
      cases t with | cons q2 t =>
      cases t
      obtain ⟨b, rfl, hb, _⟩ := Rp.pair np q1
      exact ⟨_ :: ts, (tkey k, _) :: kvs, b :: bs, rfl, .cons ⟨rfl, q2⟩ e2, .cons ⟨l.seq, hb⟩ e3, by simp [e4]⟩
  | .none :: _, _, _, h, _ => by cases h
  | .bool _ :: _, _, _, h, _ => by cases h
  | .int _ :: _, _, _, h, _ => by cases h
  | .str _ :: _, _, _, h, _ => by cases h
  | .list _ :: _, _, _, h, _ => by cases h
  | .dict _ :: _, _, _, h, _ => by cases h
  | .tuple [] :: _, _, _, h, _ => by cases h
  | .tuple [_] :: _, _, _, h, _ => by cases h
  | .tuple (_ :: _ :: _ :: _) :: _, _, _, h, _ => by cases h
def mergeT (lvs kvs : List (List Key × V)) : List (List Key × V) := kvs.foldl (fun acc kv => putK acc kv.1 kv.2) lvs
theorem mergeT_len : ∀ (kvs lvs : List (List Key × V)), (mergeT lvs kvs).length ≤ lvs.length + kvs.length
  | [], _ => Nat.le_refl _
  | p :: r, lvs => by
    have h1 := mergeT_len r (putK lvs p.1 p.2)
    have h2 := length_putK lvs p.1 p.2
    show (mergeT (putK lvs p.1 p.2) r).length ≤ _
    rw [List.length_cons]
    omega
theorem VT.puts {L : List Addr} : ∀ {kvs : List (List Key × V)} {qs : List ((Int × Int) × PyData)} {lvs : List (List Key × V)} {ps : List ((Int × Int) × PyData)}, VT K L H kvs qs → VT K L H lvs ps → VT K L H (mergeT lvs kvs) (putAllT ps qs)
  | _, _, _, _, .nil, r => r
  | (k, v) :: kvs, (j, y) :: qs, _, _, .cons ⟨e, q⟩ t, r => by
    have e : k = tkey j := e
    subst e
    exact VT.puts (kvs := kvs) (qs := qs) t (r.put q)
theorem KT.puts : ∀ {kvs : List (List Key × V)} {qs : List (List Key × Addr × Value)} {lvs : List (List Key × V)} {xs : List (List Key × Addr × Value)}, KT H kvs qs → KT H lvs xs → KT H (mergeT lvs kvs) (storedAllH xs qs)
  | _, _, _, _, .nil, r => r
  | p :: kvs, q :: qs, _, _, .cons ⟨e, hb, hv⟩ t, r => by
    have z := KT.puts (kvs := kvs) (qs := qs) t (KT.put r p.1 hb hv)
    rw [e] at z
    show KT H (mergeT (putK _ p.1 p.2) kvs) (storedAllH (storedH _ q.1 q.2.1 q.2.2) qs)
    rw [e]
    exact z
theorem raw_T {pins : List (Addr × Obj)} {s : Shared} (I : Inv X pins σ H s) : ∀ {ts : List Addr} {kvs : List (List Key × V)} {bs : List Addr}, Paired (fun t kb => SqT X.K H t [.ref kb.2, kb.1.2] ∧ H kb.2 = some (.tup (kb.1.1.map kV))) ts (kvs.zip bs) → bs.length = kvs.length →
    ∃ (raw : List (Value × Value)) (ps : List (List Key × Addr × Value)), raw.length = ts.length ∧ ps.length = ts.length ∧ KT H kvs ps ∧ ∀ (j : Nat) (k v : Value), raw[j]? = some (k, v) → ∃ (t b : Addr) (kk : List Key), ts[j]? = some t ∧ IsTup s.heap t #[k, v] ∧ k = .ref b ∧ ps[j]? = some (kk, b, v)
  | [], [], _, _, _ => ⟨[], [], rfl, rfl, .nil, fun j k v e => by simp at e⟩
  | [], _ :: _, _ :: _, h, _ => by cases h
  | _ :: _, [], _, h, _ => by cases h
  | [], _ :: _, [], _, hl => by simp at hl
  | _ :: _, _ :: _, [], h, _ => by cases h
  | t :: ts, kv :: kvs, b :: bs, .cons ⟨h1, h2⟩ r, hl => by
    obtain ⟨raw, ps, l1, l2, kt, hp⟩ := raw_T I r (by simpa using hl)
    obtain ⟨its, rv, ht, _⟩ := I.tuple h1
    obtain ⟨u, y, ei, ru, ry⟩ := vals2 rv
    subst ei
    cases ru
    refine ⟨(.ref b, y) :: raw, (kv.1, b, y) :: ps, by simp [l1], by simp [l2], .cons ⟨rfl, h2, ry⟩ kt, fun j k v e => ?_⟩
    cases j with
    | zero =>
      simp at e
      obtain ⟨rfl, rfl⟩ := e
      exact ⟨t, b, kv.1, rfl, ht, rfl, rfl⟩
    | succ j => exact hp j k v (by simpa using e)
theorem kt_key {kvs : List (List Key × V)} {xs : List (List Key × Addr × Value)} (r : KT H kvs xs) : ∀ x ∈ xs, H x.2.1 = some (.tup (x.1.map kV)) := by
  induction r with
  | nil => intro x hx; cases hx
  | @cons p q ps qs h t ih =>
    intro x hx
    rcases List.mem_cons.mp hx with e | hx
    · subst e
      rw [← h.1]
      exact h.2.1
    · exact ih x hx
theorem bDictT (hu : X.A.units + 100 < cLine) (np : noPair X.K = true) (hc : X.calm = true) : BRul X (.type "dict") gDictT := by
  intro pins s σ A S H xs us vs Q I wf rvs rus p
  unfold gDictT at p
  split at p
  case h_2 => exact p.elim
  cases rvs with | cons r1 r2 =>
  cases r2
  split at p
  case h_2 => exact p.elim
  rename_i qs hqs
  obtain ⟨ds, h1, h2⟩ := Option.bind_eq_some_iff.mp hqs
  obtain ⟨a, ys, rfl, h3, h4⟩ := asL_ok wf r1 h1
  obtain ⟨ts, kvs, bs, e1, e2, e3, e4⟩ := pairsT_ok np h2 h4
  subst e1
  obtain ⟨u2, rfl, ru2⟩ := vals1 rus
  cases ru2
  obtain ⟨its, rv2, pl, hz⟩ := I.list (.inl (.inl h3))
  have ei := refs_at rv2
  subst ei
  rw [List.length_map] at hz
  obtain ⟨raw, ps, l1, l2, kt, hpr⟩ := raw_T I e3 e4
  obtain ⟨o, m, ho, hoc, hod, hdat⟩ := pl
  have lk : kvs.length = ts.length := by rw [← l2]; exact Paired.length kt
  have pq : ∀ j k v, raw[j]? = some (k, v) → ts[j]? = some (ts.getD j 0) ∧ IsTup s.heap (ts.getD j 0) #[k, v] ∧ ∃ b kk, k = .ref b ∧ ps[j]? = some (kk, b, v) := fun j k v e => by
    obtain ⟨q, b, kk, e1, e2, e3, e4⟩ := hpr j k v e
    have e5 : ts.getD j 0 = q := by rw [List.getD_eq_getElem?_getD, e1]; rfl
    rw [e5]
    exact ⟨e1, e2, b, kk, e3, e4⟩
  have keys : ∀ x ∈ ps, (tupleKind (mixKind X.prog X.w)).is s.heap x.1 x.2.1 := fun x hx => key_of I.hok (kt_key kt x hx)
  refine call_dict_pairsH (knd := tupleKind (mixKind X.prog X.w)) (ps := ps) (PairArg.list a (ts.map Value.ref).toArray (fun j => ts.getD j 0) raw)
    (I.ok.hd hc) (show X.A.units + 1 + 1 < cLine by omega) ⟨⟨o, m, ho, hoc, hod, hdat⟩, by simp [l1], fun j k v e => ?_⟩ ⟨by omega, fun j k v e => ?_⟩ (fun h' hk x hx => ?_) (by omega) fun h' tk dd' k => ?_
  · obtain ⟨e1, e2, _⟩ := pq j k v e
    exact ⟨by rw [List.getElem?_toArray, List.getElem?_map, e1]; rfl, .inl e2⟩
  · obtain ⟨_, _, b, kk, e1, e2⟩ := pq j k v e
    exact ⟨kk, b, e2, e1⟩
  · exact tupleKind_stays.stays (fun b o vs n e _ => hk b o (Nat.ne_of_lt (Heap.lt_size e)) (fun z => nomatch z) e) (keys x hx)
  · have hm : (s.heap.objs.size == sysModules) = false := beq_eq_false_iff_ne.mpr (Nat.ne_of_gt I.big)
    have hlen : (mergeT [] kvs).length ≤ sizeLine := by
      have := mergeT_len kvs []
      simp at this
      omega
    obtain ⟨q, es, ep, hq, h2, h3, h4, _, h5⟩ := dd'
    have hp : H s.heap.objs.size = none := I.hok.fresh (Nat.le_refl _)
    have kt2 : KT (upd H s.heap.objs.size (.dT (mergeT [] kvs))) (mergeT [] kvs) (storedAllH [] ps) := KT.keeps (KT.puts kt .nil) fun b ys e => by
      rw [upd_ne (ne_of_none e hp)]
      exact e
    refine ⟨.ref s.heap.objs.size, upd H s.heap.objs.size (.dT (mergeT [] kvs)), I.laid (t' := tk) (fun b o e => k b o (fun z => nomatch z) e) (Nat.le_refl _) ⟨hlen, hm, _, kt2, q, es, ep, hq, h2, h3, h4, h5⟩, rfl, ?_⟩
    exact p _ _ (.laid hp) (wf.new hp ⟨_, upd_same, (VT.puts e2 .nil).mono (Ext.push hp wf).kp⟩) hp
/-! ### sorted of such a dict -/
def dtpOf (S : Sto) : Val → Option (List ((Int × Int) × PyData))
  | .c n => match S[n]? with
    | some (.dtp ps) => some ps
    | _ => none
  | _ => none
def pDs (ps : List ((Int × Int) × PyData)) : List PyData := ps.map fun p => .tuple [.int p.1.1, .int p.1.2]
open Classical in
noncomputable def gSortedT : List Val → Sto → Res Val
  | [v], S => match dtpOf S v with
    | some ps => if sortOk (pDs ps) then .ok (.f (.lst (sortD (pDs ps)))) S else .no
    | none => gSortedK [v] S
  | _, _ => .no
theorem dtpOf_ok {x : V} {v : Val} {ps : List ((Int × Int) × PyData)} (w : Wf K A S H) (r : Rv K A H x v) (h : dtpOf S v = some ps) : ∃ a kvs, x = .ref a ∧ a ∈ A.A ∧ H a = some (.dT kvs) ∧ VT K A.V H kvs ps := by
  cases v with
  | c m =>
    have h : (match S[m]? with
      | some (.dtp es) => some es
      | _ => none) = some ps := h
    split at h
    · rename_i es q
      cases h
      obtain ⟨a, h1, rfl⟩ := r
      obtain ⟨xs, h2, h3⟩ := w.ok m a _ h1 q
      exact ⟨a, xs, rfl, List.mem_of_getElem? h1, h2, h3⟩
    · cases h
  | _ => cases h
theorem bSortedT (hu : X.A.units + 100 < cLine) (hc : X.calm = true) : BRul X (.builtin "sorted") gSortedT := by
  intro pins s σ A S H xs us vs Q I wf rvs rus p
  unfold gSortedT at p
  split at p
  case h_2 => exact p.elim
  split at p
  case h_2 => exact bSortedK hc pins s σ A S H xs us _ Q I wf rvs rus p
  rename_i ps hq
  cases rvs with | cons r1 r2 =>
  cases r2
  split at p
  case isFalse => exact p.elim
  rename_i ok
  obtain ⟨al, so, hl, sh⟩ := ok
  obtain ⟨a, kvs, rfl, ma, h1, h2⟩ := dtpOf_ok wf r1 hq
  obtain ⟨u, rfl, ru⟩ := vals1 rus
  cases ru
  obtain ⟨z, hs, ks, pr, o, es, ep, ho, hx, hdt, he, hn⟩ := (show ObjOk X.prog X.w H s.heap a (.dT kvs) from I.hok a _ h1)
  have l1 : es.size = ks.length := size_of_entries he
  have l2 : kvs.length = ks.length := Paired.length pr
  have l3 : kvs.length = ps.length := Paired.length h2
  refine Calls.call_function_entry kind_sorted plain_sorted entry_sorted (args_sorted1 _) ?_
  unfold Builtin.«sorted»
  refine wpAny_bind (m := checkCount "sorted" 1 1 _) (wpAny_pure ?_)
  refine wpAny_bind (PySem.W.kdu_collect (A := X.A.in1) (kdl_raw hs hx hdt) (I.ok.hd hc) ho (by omega) fun h' tk acc hk hacc => ?_)
  have ea : acc.toList = (ks.map fun x => x.2.1).map Value.ref := by
    have hl : acc.toList.length = ks.length := by rw [Array.length_toList, hacc.1]; exact l1
    apply List.ext_getElem?
    intro j
    rw [List.getElem?_map, List.getElem?_map]
    cases hj : acc.toList[j]? with
    | none =>
      have h1 := List.getElem?_eq_none_iff.mp hj
      rw [List.getElem?_eq_none (by omega)]
      rfl
    | some v =>
      obtain ⟨en, hen, hv⟩ := hacc.2 j v (by rw [← Array.getElem?_toList]; exact hj)
      have qe := entry_at he j
      rw [hen] at qe
      cases hb : ks[j]? with
      | none =>
        rw [hb] at qe
        exact nomatch (show some en = none from qe)
      | some b =>
        rw [hb] at qe
        have e2 : en = entryOfKey (tupleKind (mixKind X.prog X.w)) b := Option.some.inj qe
        rw [hv, e2]
        rfl
  have rp : ∀ {kvs : List (List Key × V)} {ks : List (List Key × Addr × Value)} {ps : List ((Int × Int) × PyData)}, KT H kvs ks → VT X.K A.V H kvs ps → RpL X.K A.V H ((ks.map fun x => x.2.1).map V.ref) (pDs ps) := by
    intro kvs ks ps r
    induction r generalizing ps with
    | nil => intro t; cases t; exact .nil
    | @cons p q ps' qs' h t ih =>
      intro v
      cases v with | cons v1 v2 =>
      refine .cons ?_ (ih v2)
      have hb := h.2.1
      rw [v1.1] at hb
      refine Rp.tup (xs := [.int _, .int _]) (.inl ⟨.inl hb, fun m => ?_⟩) (.cons (.int _) (.cons (.int _) .nil))
      obtain ⟨o, e, mu⟩ := wf.there m
      rw [hb] at e
      cases e
      exact mu.elim
  have h1' := rp pr h2
  generalize hits : (ks.map fun x => x.2.1).map Value.ref = its at ea
  generalize hys : (ks.map fun x => x.2.1).map V.ref = ys at h1'
  have rv : Vals ys its := by rw [← hys, ← hits]; exact vals_refs _
  have pl : (pDs ps).length = ps.length := by simp [pDs]
  have hlen : its.length = (pDs ps).length := by rw [← rv.length, h1'.length]
  generalize hds : pDs ps = ds at *
  refine wpAny_bind (wpAny_newList ?_ (by rw [ea, hlen]; exact hl))
  have I1 : Inv X pins σ H { s with heap := h', toks := tk } := I.kept hk
  obtain ⟨as, rd⟩ := Dp.readsAll I1 ds ys its (RpL.dp ds ys (shaped_lay sh) h1') rv
  rw [ea]
  generalize hL : h'.objs.size = L
  have hnone : h'.get? L = none := Heap.get?_none_of_le (by rw [← hL]; exact Nat.le_refl _)
  have hkeep : ∀ b o, h'.get? b = some o → (h'.push { cls := .type "list", data := .seq its.toArray }).get? b = some o := fun b o e => Heap.get?_push_of_some _ e
  have hobj : (h'.push { cls := .type "list", data := .seq its.toArray }).get? L = some (seqObj "list" its.toArray 0) := by rw [← hL]; exact Heap.get?_push_size _ rfl
  refine wpAny_bind (wpAny_holding ?_)
  refine PySem.W.list_sort_data (vs := its) (bs := ds) (enc := id) (R := fun u d => ∃ x, RelV x u ∧ Rp X.K A.V H x d) (n := 0) hobj (rpl_each h1' rv) ?_ (by simpa using al) (by simpa using so) hl ?_ fun out ho eo => ?_
  · have z := each_reads rd
    have z2 : ∀ {us : List Value} {ds : List PyData}, PySem.W.EachIs (fun u d => ∃ as, Reads h' u d as) us ds → PySem.W.EachIs (fun v b => ∃ as, Reads (h'.push { cls := .type "list", data := .seq its.toArray }) v (id b) as ∧ L ∉ as) us ds := fun z => z.mono fun u d ⟨as, r⟩ => ⟨as, PyProof.Rows.Reads.keeps hkeep r, fun m => by
      obtain ⟨o, e⟩ := reads_there r L m
      rw [hnone] at e; cases e⟩
    exact z2 z
  · intro d hd
    have h64 := SeqAt.depth_of_shaped (sh d hd)
    show X.A.in1.units + 1 + d.depth < cLine
    have : X.A.in1.units = X.A.units + 1 := rfl
    omega
  · obtain ⟨zs, r3, r4⟩ := each_rpl eo
    obtain ⟨ep, he⟩ := sortedHeap_at (h := h'.push { cls := .type "list", data := .seq its.toArray }) (vs := its) (n := 0) (out := out.toArray) hobj
    refine wpAny_pure ⟨_, rfl, ?_⟩
    have kk : ∀ b u, h'.get? b = some u → (sortedHeap (h'.push { cls := .type "list", data := .seq its.toArray }) L its out.toArray).get? b = some u := fun b u e' => by
      have hlt := Heap.lt_size e'
      rw [sortedHeap_old (by rw [← hL]; exact Nat.ne_of_lt hlt) (by rw [Heap.size_push]; exact Nat.lt_succ_of_lt hlt)]
      exact hkeep b u e'
    have hp : H L = none := I1.hok.fresh (Nat.le_of_eq hL)
    refine ⟨.ref L, upd H L (.lst zs), I1.laid (t' := tk) kk (Nat.le_of_eq hL) ⟨?_, out, ep, r4, he⟩, rfl, p.fresh wf hp r3⟩
    rw [r4.length, ho]; exact hl
end
end MV
set_option Elab.async false
set_option linter.all false
set_option maxRecDepth 100000
/-! sorted(set(x)), x a list or a tuple, of numbers or of pairs of numbers. -/
namespace MV
open PySem PySem.Spec PyProof.Rows L2
section
variable {P : Program} {w : World} {A : Around} {E : Value → Shared → Prop} {s : Shared}
/-- the set that set() lays at first -/
abbrev set0 (w : World) : Obj := { cls := .type "set", dict := none, data := .set #[] 0 (.fresh 0 0 (!w.params.followText "set-order")) }
def KeptS (s s' : Shared) : Prop := s'.gens = s.gens ∧ s'.os = s.os ∧ s'.drawn = s.drawn ∧ ∀ b o, s.heap.get? b = some o → s'.heap.get? b = some o
/-- how far the run of set(x) comes by itself: to the loop over x -/
def LoopAt (P : Program) (w : World) (A : Around) (s : Shared) (l : Addr) (items : Array Value) (R : Shared → Prop) : Prop :=
  ∀ (I : Addr) (St : Nat → Shared → Prop) (s1 : Shared) (D : Result → Shared → Prop), WalksS P w A.in1.in1.in1 I [I, l] [I] (fun a b => b = a) items.size (fun i v => items[i]? = some v) St →
    St 0 s1 → I = s.heap.objs.size + 1 → s.heap.objs.size ∉ [I, l] → KeptS s s1 → s1.heap.get? s.heap.objs.size = some (set0 w) →
    (∀ s', R s' → KeptS s s' → D (.ok (.ret .none)) s') →
    codeAny (model P w) A.in1.in1 (.builtin "set.update.loop" ⟨[.ref s.heap.objs.size, .ref I], []⟩) D s1
theorem keptS_eq {s s' : Shared} (k : KeptS s s') : s' = { s with heap := s'.heap, toks := s'.toks } := by
  obtain ⟨k1, k2, k3, _⟩ := k
  cases s'
  cases s
  dsimp only at k1 k2 k3
  subst k1 k2 k3
  rfl
set_option maxHeartbeats 3200000 in
theorem set_seq {l : Addr} {items : Array Value} {T : String} (hT : T = "list" ∨ T = "tuple") (hh : A.handled = none) (hl : ∃ o n, s.heap.get? l = some o ∧ o.cls = .type T ∧ o.data = .seq items n) {R : Shared → Prop} (loop : LoopAt P w A s l items R)
    {Q : Value → Shared → Prop} (h : ∀ s', R s' → KeptS s s' → Q (.ref s.heap.objs.size) s') : wpAny (model P w) A (call (.type "set") [.ref l]) Q E s := by
  have made := F.called_set.made
  have subs := F.called_set.sub
  have asks := F.called_set.notType
  have can := F.called_set.canCreate
  have way := F.typeCall_set_1 (.ref l)
  obtain ⟨c, tl, line⟩ := F.called_set.mro
  refine wpAny_call (codeAny_of_tree ?_)
  show wpAny _ _ (callAny (.type "set") _) _ _ _
  refine wpAny_pure ⟨Code.quiet_builtin _ (by decide +kernel), codeAny_builtin F.entry_type_call ?_⟩
  rw [Around.under_plain (weight_type_call_type "set" [.ref l] []) rfl]
  repeat (any_goals (first | assumption | wp_step))
  refine codeAny_mono (code_set_led1 (.ref l) (E := E) (Q₁ := fun u s1 => u = .ref s.heap.objs.size ∧ s1 = { s with heap := s.heap.push (set0 w) }) ⟨rfl, rfl⟩) fun r s1 hr => ?_
  rcases r with e | (_ | _ | _ | u)
  · exact hr
  · exact hr.elim
  · exact hr.elim
  · exact hr.elim
  obtain ⟨rfl, rfl⟩ := hr
  have here : (s.heap.push (set0 w)).get? s.heap.objs.size = some (set0 w) := Heap.get?_push_size _ rfl
  have isS : Shared.TypeIs { s with heap := s.heap.push (set0 w) } (.ref s.heap.objs.size) "set" := ⟨_, here, rfl⟩
  have li := F.called_set.init.lookup
  have bi := F.called_set.init.bind (.ref s.heap.objs.size)
  repeat (any_goals (first | assumption | wp_step))
  refine codeAny_mono (codeAny_call_builtin (R := wants (fun r s' => r = .none ∧ R s' ∧ KeptS s s') E) F.called_set.init.plain F.entry_set_init (check_set_init_1 isS ?_)) fun r s2 hr => ?_
  · obtain ⟨⟨oc, od, odt, osl⟩, n, ho, hc, hd⟩ := hl
    dsimp only at hc hd
    subst hc hd
    have low : l < s.heap.objs.size := Heap.lt_size ho
    have hh3 : A.in1.in1.in1.handled = none := by simp [hh]
    have big : (s.heap.push (set0 w)).objs.size = s.heap.objs.size + 1 := Heap.size_push ..
    have ho' : (s.heap.push (set0 w)).get? l = some ⟨.type T, od, .seq items n, osl⟩ := Heap.get?_push_of_some _ ho
    have off : l ≠ (s.heap.push (set0 w)).objs.size := by rw [big]; exact Nat.ne_of_lt (Nat.lt_succ_of_lt low)
    have out : s.heap.objs.size ∉ [(s.heap.push (set0 w)).objs.size, l] := by
      rw [big]
      simp only [List.mem_cons, List.not_mem_nil, or_false, not_or]
      exact ⟨Nat.ne_of_lt (Nat.lt_succ_self _), Nat.ne_of_gt low⟩
    have keep : ∀ (it : Obj) b o, s.heap.get? b = some o → ((s.heap.push (set0 w)).push it).get? b = some o := fun it b o e => Heap.get?_push_of_some _ (Heap.get?_push_of_some _ e)
    have fin : ∀ {D : Result → Shared → Prop}, (∀ s', R s' → KeptS s s' → D (.ok (.ret .none)) s') → ∀ s', R s' → KeptS s s' → D (.ok (.ret .none)) s' := fun h => h
    rcases hT with rfl | rfl
    · have a1 := F.sub_list_set
      have a2 := F.sub_list_frozenset
      have a3 : (Value.type "list" == Value.type "dict") = false := by decide
      unfold Builtin.«set.__init__» noKeywords Builtin.Frozenset.updateFrom
      generalize hPI : pyIter = PI
      wp_walk
      subst hPI
      refine wpAny_pyIter_list ⟨_, ho', rfl, n, rfl⟩ ?_
      refine wpAny_bind (wpAny_runValue ?_)
      refine loop _ _ _ _ ((Walks.list hh3 _ l off items).toS) ⟨⟨_, Heap.get?_push_size _ rfl, rfl, rfl⟩, ⟨_, Heap.get?_push_of_some _ ho', rfl, n, rfl⟩⟩ big out ⟨rfl, rfl, rfl, keep _⟩ (Heap.get?_push_of_some _ here) fun s' h1 h2 => ?_
      show wpAny _ _ _ _ _ _
      refine wpAny_pure ?_
      show wpAny _ _ (ret Value.none) _ _ _
      exact wpAny_pure ⟨rfl, h1, h2⟩
    · have a1 := F.sub_tuple_set
      have a2 := F.sub_tuple_frozenset
      have a3 : (Value.type "tuple" == Value.type "dict") = false := by decide
      unfold Builtin.«set.__init__» noKeywords Builtin.Frozenset.updateFrom
      generalize hPI : pyIter = PI
      wp_walk
      subst hPI
      refine wpAny_pyIter_tuple ⟨_, ho', rfl, n, rfl⟩ ?_
      refine wpAny_bind (wpAny_runValue ?_)
      refine loop _ _ _ _ ((Walks.tuple hh3 _ l off items).toS) ⟨⟨_, Heap.get?_push_size _ rfl, rfl, rfl⟩, ⟨_, Heap.get?_push_of_some _ ho', rfl, n, rfl⟩⟩ big out ⟨rfl, rfl, rfl, keep _⟩ (Heap.get?_push_of_some _ here) fun s' h1 h2 => ?_
      show wpAny _ _ _ _ _ _
      refine wpAny_pure ?_
      show wpAny _ _ (ret Value.none) _ _ _
      exact wpAny_pure ⟨rfl, h1, h2⟩
  · rcases r with e | (_ | _ | _ | u)
    · exact hr
    · exact hr.elim
    · exact hr.elim
    · exact hr.elim
    obtain ⟨rfl, h1, h2⟩ := hr
    repeat (any_goals (first | assumption | wp_step))
    exact h s2 h1 h2
theorem moved_kept {s1 s' : Shared} {wr : List Addr} {S : Addr} (k : KeptS s s1) (hS : ∀ b ∈ S :: wr, s.heap.get? b = none) (m : Moved (S :: wr) (fun a b => b = a) s1 s') : KeptS s s' := by
  obtain ⟨k1, k2, k3, k4⟩ := k
  refine ⟨(show s'.gens = s1.gens from m.gens).trans k1, m.os.trans k2, m.drawn.trans k3, fun b o e => m.heap b o (fun hb => ?_) (k4 b o e)⟩
  rw [hS b hb] at e
  cases e
theorem loop_ints {l : Addr} {items : Array Value} (ns : List Int) (hi : IntsAre items.toList ns) (hb : ns.length + 1 < scanBound) :
    LoopAt P w A s l items fun s' => ∃ c, SetR w s'.heap s.heap.objs.size (fun j => decide (j ∈ ns)) c ∧ c ≤ ns.length := by
  intro I St s1 D W hSt eI out k here fin
  have hn : items.size = ns.length := by
    have q := IntsAre.length hi
    rw [Array.length_toList] at q
    exact q
  have hval : ∀ (i : Nat) (v : Value), items[i]? = some v → ∃ k t, ns[i]? = some k ∧ v = .int k t := fun i v hv => by
    have hi' : i < ns.length := by rw [← hn]; exact (Array.getElem?_eq_some_iff.mp hv).1
    obtain ⟨t, e⟩ := IntsAre.int_at hi i v (by rw [Array.getElem?_toList]; exact hv)
    refine ⟨ns[i], t, List.getElem?_eq_getElem hi', ?_⟩
    rw [e, List.getD_eq_getElem?_getD, List.getElem?_eq_getElem hi']
    rfl
  refine set_update_ints W s.heap.objs.size out ns hn hb hval (items.size - 0) 0 s1 rfl (Nat.zero_le _) hSt ⟨0, Nat.le_refl 0, setR_new_at here⟩ fun s' c m hc hR => ?_
  refine fin s' ⟨c, hR, by omega⟩ (moved_kept k (fun b hb => ?_) m)
  simp only [List.mem_cons, List.not_mem_nil, or_false] at hb
  rcases hb with e | e
  · rw [e]; exact Heap.get?_none_of_le (Nat.le_refl _)
  · rw [e, eI]; exact Heap.get?_none_of_le (Nat.le_succ _)
theorem loop_tups {l : Addr} {items : Array Value} (ks : List (Addr × List Int)) (hit : items.toList = ks.map fun p => Value.ref p.1) (hk : ∀ p ∈ ks, IsT P w s.heap p.2 p.1) (hfew : ks.length < 64) (hu : A.units + 3 < cLine) :
    LoopAt P w A s l items fun s' => ∃ L es ep t, SetTR P w s'.heap s.heap.objs.size L es ep t ∧ Got ks ks.length L := by
  intro I St s1 D W hSt eI out k here fin
  have hn : items.size = ks.length := by
    have q := congrArg List.length hit
    rw [Array.length_toList, List.length_map] at q
    exact q
  have hval : ∀ (i : Nat) (v : Value), items[i]? = some v → ∃ p, ks[i]? = some p ∧ v = .ref p.1 := fun i v hv => by
    have q : (ks.map fun p => Value.ref p.1)[i]? = some v := by rw [← hit, Array.getElem?_toList]; exact hv
    rw [List.getElem?_map] at q
    obtain ⟨p, h1, h2⟩ := Option.map_eq_some_iff.mp q
    exact ⟨p, h1, h2.symm⟩
  have new : ∀ b, b = s.heap.objs.size ∨ b = I → s.heap.get? b = none := fun b hb => by
    rcases hb with e | e
    · rw [e]; exact Heap.get?_none_of_le (Nat.le_refl _)
    · rw [e, eI]; exact Heap.get?_none_of_le (Nat.le_succ _)
  refine set_update_tups W s.heap.objs.size out ks hn hfew hval s.heap hk (new _ (.inl rfl)) (fun b hb => new b (.inr (List.mem_singleton.mp hb))) hu (items.size - 0) 0 s1 rfl (Nat.zero_le _) hSt k.2.2.2 ⟨[], #[], 0, _, setTR_fresh here, Got.zero ks⟩ fun s' L es ep t m hR g _ => ?_
  rw [hn] at g
  refine fin s' ⟨L, es, ep, t, hR, g⟩ (moved_kept k (fun b hb => ?_) m)
  simp only [List.mem_cons, List.not_mem_nil, or_false] at hb
  exact new b hb
end
section
variable {X : Cx} {K : Frg} {a b : Expr} {fa fb : Sx} {pos : Pos} {A A' A2 : Wd} {H H' H2 : Hp} {S S' : Sto} {Q : VK} {ρ : Envi} {σ : L2.St} {D : Ends}
/-- at l stands a list, a tuple of these -/
def SqB (K : Frg) (H : Hp) (t : Bool) (l : Addr) (xs : List V) : Prop := if t = true then SqT K H l xs else SqL K H l xs
theorem sqB_at {pins : List (Addr × Obj)} {s : Shared} {t : Bool} {l : Addr} {xs : List V} (I : Inv X pins σ H s) (h : SqB X.K H t l xs) : ∃ its : List Value, Vals xs its ∧ ∃ T, (T = "list" ∨ T = "tuple") ∧ ∃ o n, s.heap.get? l = some o ∧ o.cls = .type T ∧ o.data = .seq its.toArray n := by
  unfold SqB at h
  split at h
  · obtain ⟨its, rv, ⟨o, h1, h2, n, h3⟩, _⟩ := I.tuple h
    exact ⟨its, rv, "tuple", .inr rfl, o, n, h1, h2, h3⟩
  · obtain ⟨its, rv, ⟨o, n, h1, h2, _, h3⟩, _⟩ := I.list h
    exact ⟨its, rv, "list", .inl rfl, o, n, h1, h2, h3⟩
theorem cr_setI (hc : X.calm = true) : CallR X (.type "set") (fun xs H Q => ∃ (t : Bool) (l : Addr) (ns : List Int), xs = [.ref l] ∧ SqB X.K H t l (ns.map V.int) ∧ ns.length < 64 ∧ ∀ a c, H a = none → c ≤ ns.length → Q (.ref a) (L2.upd H a (SetO X.w a (fun j => decide (j ∈ ns)) c))) := by
  intro pins s σ H xs us Q I r h
  obtain ⟨t, l, ns, rfl, hl, hf, q⟩ := h
  rw [Vals.ref1 r]
  obtain ⟨its, rv, T, hT, ob⟩ := sqB_at I hl
  refine set_seq (P := X.prog) (w := X.w) hT (I.ok.hd hc) ob (loop_ints ns (by simpa using rv.ints) (by unfold scanBound; omega)) fun s' ⟨c, R, hcn⟩ k => ?_
  have e := keptS_eq k
  rw [e]
  exact ⟨.ref s.heap.objs.size, _, I.laid (t' := s'.toks) k.2.2.2 (Nat.le_refl _) (setO_new R), rfl, q _ c (I.hok.fresh (Nat.le_refl _)) hcn⟩
theorem cr_setT (hc : X.calm = true) (hu : X.A.units + 64 < cLine) : CallR X (.type "set") (fun xs H Q => ∃ (t : Bool) (l : Addr) (ks : List (Addr × List Int)), xs = [V.ref l] ∧ SqB X.K H t l (ks.map fun p => V.ref p.1) ∧ (∀ p ∈ ks, SqT X.K H p.1 (p.2.map V.int)) ∧ ks.length < 64 ∧
    ∀ a L, H a = none → (∀ p ∈ L, p ∈ ks) → (∀ p ∈ ks, p.2 ∈ L.map (·.2)) → Q (.ref a) (L2.upd H a (SetTO X.prog X.w a L))) := by
  intro pins s σ H xs us Q I r h
  obtain ⟨t, l, ks, rfl, hl, hk, hf, q⟩ := h
  rw [Vals.ref1 r]
  obtain ⟨its, rv, T, hT, ob⟩ := sqB_at I hl
  have hn : H s.heap.objs.size = none := I.hok.fresh (Nat.le_refl _)
  refine set_seq (P := X.prog) (w := X.w) hT (I.ok.hd hc) ob (loop_tups ks (by simpa using refs_of_vals rv) (fun p hp => I.isT (hk p hp)) hf (by omega)) fun s' ⟨L, es, ep, t, R, g⟩ k => ?_
  have e := keptS_eq k
  rw [e]
  refine ⟨.ref s.heap.objs.size, L2.upd H s.heap.objs.size (SetTO X.prog X.w s.heap.objs.size L), I.laid (t' := s'.toks) k.2.2.2 (Nat.le_refl _) (setTO_new R.t0), rfl, q _ L hn (fun p hp => ?_) fun p hp => ?_⟩
  · exact List.mem_of_mem_take (g.sub p hp)
  · exact g.all p (by rw [List.take_length]; exact hp)
/-! ### sorted(set(x)) -/
def gSorS (v : Val) (S : Sto) : Res Val := match seqOf S v with
  | some q => match intsOf q.2.1 with
    | some ns => if ns.length < 60 then .ok (.f (.lst (((dd ns).mergeSort fun a b => decide (a ≤ b)).map .int))) S else .no
    | none => match pairsI q.2.1 with
      | some ps => if ps.length < 64 ∧ ps.all (fun p => decide (0 ≤ p.1 ∧ p.1 < 1000 ∧ 0 ≤ p.2 ∧ p.2 < 1000)) = true then .ok (.f (.lst (((dd ps).mergeSort pleb).map fun p => .tuple [.int p.1, .int p.2]))) S else .no
      | none => .no
  | none => .no
def evSorS (f : Sx) : Sx := fun ρ S => (f ρ S).bind fun v S1 => gSorS v.th S1
theorem eSorS {e : Expr} {f : Sx} {p p2 q : Pos} (hc : X.calm = true) (hu : X.A.units + 100 < cLine) (hg : Gl X "sorted") (hm : X.mg "sorted" = none) (hg2 : Gl X "set") (hm2 : X.mg "set" = none) (ha : PE X e (tE X.K f))
    (hs : starEach [e] X.env = (false, eval e X.env) :: starEach [] X.env := by rfl) : PE X (.Call (.Name "sorted" p) [.Call (.Name "set" p2) [e] [] q] [] pos) (tE X.K (evSorS f)) :=
  PEi (pe_callB (CallR.or (cr_sortedSet hc) (cr_sortedT hc)) hg hm (by decide +kernel) (pa_cons (pe_callTy (CallR.or (cr_setI hc) (cr_setT hc (by omega))) hg2 hm2 (by decide +kernel) (pa_cons ha pa_nil hs) (by decide) (by decide) hs) pa_nil)) fun σ H Q ⟨A, S, ρ, w, env, p⟩ =>
  at_seq (P := Post X.K A H Q) w env p (fun h => h) (fun _ _ h => h) fun v S1 x H1 e1 w1 r1 p1 => by
    unfold gSorS at p1
    split at p1
    case h_2 => exact p1.elim
    rename_i q hq
    obtain ⟨a, xs, rfl, r1', sq⟩ := seq_at (t := q.1) (ds := q.2.1) (g := q.2.2) hq w1 r1
    have sq : SqB X.K H1 q.1 a xs := sq
    generalize q.2.1 = ds at r1' p1
    generalize q.1 = t at sq
    split at p1
    · rename_i ns hns
      split at p1
      case isFalse => exact p1.elim
      rename_i hl
      have e := intsOf_ok hns
      subst e
      have e := r1'.ints
      subst e
      refine .inl ⟨t, a, ns, rfl, sq, by omega, fun a2 c ha2 hcn => .inl ⟨a2, _, c, rfl, upd_same, by omega, fun ns' p3 h1 h2 h3 hp3 => ?_⟩⟩
      have e4 : ns' = (dd ns).mergeSort fun a b => decide (a ≤ b) := by
        refine isort_eq ?_ (h1.imp fun h => by omega)
        refine (List.perm_ext_iff_of_nodup (h1.imp fun h => by omega) (nodup_dd ns)).mpr fun k => ?_
        rw [h2, mem_dd, decide_eq_true_iff]
      rw [e4]
      have e5 := Ext.laid (W := A) (o := SetO X.w a2 (fun j => decide (j ∈ ns)) c) ha2
      exact Post.fresh (p1.shift (e1.trans e5) (w1.laid ha2)) (w1.laid ha2) hp3 (RpL.of_ints _)
    · split at p1
      case h_2 => exact p1.elim
      rename_i ps hps
      split at p1
      case isFalse => exact p1.elim
      rename_i hl
      have e := pairsI_ok hps
      subst e
      obtain ⟨ks, e1', e2, e3⟩ := pairs_addr r1'
      subst e1'
      have hlen : ks.length = ps.length := by
        have := congrArg List.length e2
        simpa using this
      have form : ∀ k ∈ ks, ∃ q ∈ ps, k.2 = [q.1, q.2] := fun k hk => by
        have : k.2 ∈ ks.map (·.2) := List.mem_map_of_mem hk
        rw [e2] at this
        obtain ⟨q, h1, h2⟩ := List.mem_map.mp this
        exact ⟨q, h1, h2.symm⟩
      have bd : ∀ q ∈ ps, (0 ≤ q.1 ∧ q.1 < 1000) ∧ 0 ≤ q.2 ∧ q.2 < 1000 := fun q hq => by
        have := List.all_eq_true.mp hl.2 q hq
        simp only [decide_eq_true_eq] at this
        omega
      refine .inr ⟨t, a, ks, rfl, sq, fun k hk => (e3 k hk).2, by omega, fun a2 L ha2 hL1 hL2 => .inr ⟨a2, L, 2, 1000, rfl, upd_same, fun k hk => ?_, by decide, fun k hk => ?_, fun L' p3 h1 h2 h3 h4 hp3 => ?_⟩⟩
      · exact sqT_laid (e3 k (hL1 k hk)).2 ha2
      · obtain ⟨q, hq, e4⟩ := form k (hL1 k hk)
        rw [e4]
        refine ⟨rfl, fun m hm => ?_⟩
        have := bd q hq
        simp at hm
        rcases hm with rfl | rfl
        · exact this.1
        · exact this.2
      · have formL : ∀ k ∈ L', ∃ q ∈ ps, k.2 = [q.1, q.2] := fun k hk => form k (hL1 k (h1.mem_iff.mp hk))
        have e5 : L'.map (fun k => unL k.2) = (dd ps).mergeSort pleb := by
          refine psort_eq ((List.perm_ext_iff_of_nodup ?_ (nodup_dd ps)).mpr fun q => ?_) ?_
          · rw [List.Nodup, List.pairwise_map]
            have h2' : L'.Pairwise fun k k' => k.2 ≠ k'.2 := List.pairwise_map.mp h2
            refine h2'.imp_of_mem fun {k k'} hk hk' ne e => ne ?_
            obtain ⟨q, _, q1⟩ := formL k hk
            obtain ⟨q', _, q2⟩ := formL k' hk'
            rw [q1, q2] at e ⊢
            simp [unL] at e
            rw [e.1, e.2]
          · rw [mem_dd]
            constructor
            · intro hq
              obtain ⟨k, hk, e⟩ := List.mem_map.mp hq
              obtain ⟨q', hq', e'⟩ := formL k hk
              rw [e'] at e
              rw [← e]; exact hq'
            · intro hq
              have m1 : ([q.1, q.2] : List Int) ∈ ks.map (·.2) := by rw [e2]; exact List.mem_map_of_mem (f := fun p : Int × Int => [p.1, p.2]) hq
              obtain ⟨k, hk, ek⟩ := List.mem_map.mp m1
              obtain ⟨k2, hk2, ek2⟩ := List.mem_map.mp (hL2 k hk)
              refine List.mem_map.mpr ⟨k2, h1.mem_iff.mpr hk2, ?_⟩
              have e7 : k2.2 = [q.1, q.2] := ek2.trans ek
              rw [e7]; rfl
          · rw [List.pairwise_map]
            refine h4.imp_of_mem fun {k k'} hk hk' h => ?_
            obtain ⟨q, hq, e⟩ := formL k hk
            obtain ⟨q', hq', e'⟩ := formL k' hk'
            rw [e, e'] at h
            rw [e, e']
            exact code_lex h (bd q hq).1 (bd q hq).2 (bd q' hq').1 (bd q' hq').2
        have e6 : ((dd ps).mergeSort pleb).map (fun p => PyData.tuple [.int p.1, .int p.2]) = L'.map fun k => .tuple (k.2.map .int) := by
          rw [← e5, List.map_map]
          refine List.map_congr_left fun k hk => ?_
          obtain ⟨q, _, e⟩ := formL k hk
          simp only [Function.comp, e]; rfl
        rw [e6] at p1
        have ex := Ext.laid (W := A) (o := SetTO X.prog X.w a2 L) ha2
        refine Post.fresh (p1.shift (e1.trans ex) (w1.laid ha2)) (w1.laid ha2) hp3 ?_
        have all : ∀ M : List (Addr × List Int), (∀ k ∈ M, k ∈ ks) → RpL X.K A.V (L2.upd H1 a2 (SetTO X.prog X.w a2 L)) (M.map fun q => V.ref q.1) (M.map fun k => PyData.tuple (k.2.map .int)) := by
          intro M
          induction M with
          | nil => intro _; exact .nil
          | cons k M ih =>
            intro h
            exact .cons ((e3 k (h k (by simp))).1.mono ex.kp) (ih fun k' hk' => h k' (List.mem_cons_of_mem _ hk'))
        exact all L' fun k hk => hL1 k (h1.mem_iff.mp hk)
end
end MV
set_option Elab.async false
set_option linter.all false
set_option maxRecDepth 100000
/-! Readings by mirrors: lists of lists: made by a comprehension, read, walked; two items changed about. -/
namespace MV
open PySem PySem.Spec PyProof.Rows L2
section
variable {X : Cx} {K : Frg} {a b : Expr} {fa fb : Sx} {pos : Pos} {A A' A2 W W' : Wd} {H H' H2 : Hp} {S S' : Sto} {Q : VK} {ρ : Envi} {σ : L2.St} {D : Ends}
/-- the list of lists that v is -/
def nlsOf (S : Sto) : Val → Option (Nat × List Itm)
  | .c n => match S[n]? with
    | some (.nls is) => some (n, is)
    | _ => none
  | _ => none
theorem nlsOf_ok {x : V} {v : Val} {n : Nat} {is : List Itm} (w : Wf K A S H) (r : Rv K A H x v) (h : nlsOf S v = some (n, is)) : ∃ a xs, A.A[n]? = some a ∧ x = .ref a ∧ H a = some (.lst xs) ∧ Paired (ItmOk K A H) xs is ∧ S[n]? = some (.nls is) := by
  cases v with
  | c m =>
    have h : (match S[m]? with
      | some (.nls es) => some (m, es)
      | _ => none) = some (n, is) := h
    split at h
    · rename_i es q
      cases h
      obtain ⟨a, h1, rfl⟩ := r
      obtain ⟨xs, h2, h3⟩ := w.ok n a _ h1 q
      exact ⟨a, xs, h1, rfl, h2, h3, q⟩
    · cases h
  | _ => cases h
theorem paired_getI {α β : Type} {R : α → β → Prop} : ∀ {xs : List α} {ys : List β} {j : Nat} {y : β}, Paired R xs ys → ys[j]? = some y → ∃ x, xs[j]? = some x ∧ R x y
  | _, _, _, _, .nil, h => by cases h
  | _, _, 0, _, .cons r _, h => by cases h; exact ⟨_, rfl, r⟩
  | _, _, j + 1, _, .cons _ t, h => paired_getI (j := j) t h
theorem paired_getX {α β : Type} {R : α → β → Prop} : ∀ {xs : List α} {ys : List β} {j : Nat} {x : α}, Paired R xs ys → xs[j]? = some x → ∃ y, ys[j]? = some y ∧ R x y
  | _, _, _, _, .nil, h => by cases h
  | _, _, 0, _, .cons r _, h => by cases h; exact ⟨_, rfl, r⟩
  | _, _, j + 1, _, .cons _ t, h => paired_getX (j := j) t h
/-! ### x[i] -/
def gIxN : Val → Val → Sto → Res Val := fun v w S => match nlsOf S v with
  | some q => match w with
    | .d (.int i) => match L2.atI q.2 i with
      | some z => .ok z.val S
      | none => .no
    | _ => .no
  | none => gIx v w S
theorem xIxN (hu : X.A.units + 1 < cLine) : IxR X (rO X.K gIxN) := by
  intro value slice pins s σ H x y u u' Q I ru ru' ⟨A, S, v, w, wf, rv, rw, p⟩ hs
  unfold gIxN at p
  split at p
  case h_2 => exact xIx hu value slice pins s σ H x y u u' Q I ru ru' ⟨A, S, v, w, wf, rv, rw, p⟩ hs
  rename_i q hq
  split at p
  case h_2 => exact p.elim
  rename_i i
  split at p
  case h_2 => exact p.elim
  rename_i z hz
  obtain ⟨a, xs, ha, e1, h1, h2, _⟩ := nlsOf_ok (n := q.1) (is := q.2) wf rv hq
  have key : ∃ zz, L2.atI xs i = some zz ∧ ItmOk X.K A H zz z := by
    unfold L2.atI at hz ⊢
    rw [Paired.length h2]
    cases e : ixN q.2.length i with
    | none => rw [e] at hz; cases hz
    | some j =>
      rw [e] at hz
      exact paired_getI h2 hz
  obtain ⟨zz, hzz, ok⟩ := key
  refine ix_list value slice pins s σ H x y u u' Q I ru ru' ⟨a, xs, _, zz, e1, Rp.int_inv rw, .inl (.inl h1), hzz, ?_⟩ hs
  cases z with
  | d x => exact p zz H .refl wf ok
  | c m => obtain ⟨b, hb, rfl⟩ := ok; exact p b H .refl wf hb
theorem eIxN (hu : X.A.units + 100 < cLine) (ha : PE X a (tE X.K fa)) (hb : PE X b (tE X.K fb)) (hs : PlainIx b := by exact fun _ _ => rfl) : PE X (.Subscript a b pos) (tE X.K (ev2 gIxN fa fb)) := PEi (pe_ix (xIxN (by omega)) ha hb hs) fun _ _ _ => ev2_ok
/-! ### two readings of one expression -/
def notV (i : Nat) (k : Int) : Envi → Bool := fun ρ => match ρ[i]? with
  | some (some (.d (.int j))) => j != k
  | _ => true
def evIf2 (c : Envi → Bool) (f g : Sx) : Sx := fun ρ S => if c ρ = true then f ρ S else g ρ S
theorem tE_if2 {c : Envi → Bool} {f g : Sx} (h : tE K (evIf2 c f g) σ H Q) : tE K f σ H Q ∨ tE K g σ H Q := by
  obtain ⟨A, S, ρ, w, env, p⟩ := h
  unfold evIf2 at p
  split at p
  · exact .inl ⟨A, S, ρ, w, env, p⟩
  · exact .inr ⟨A, S, ρ, w, env, p⟩
/-! ### a list of new lists -/
open Classical in
noncomputable def gGo (bd : Bnd) (e : Sx) (ρ : Envi) (base : Sto) : List PyData → List Cell → Option (List Cell)
  | [], acc => some acc
  | x :: xs, acc => match bd.go x ρ with
    | some ρ1 => match e ρ1 (base ++ acc) with
      | .ok (.f (.lst l)) S2 => if S2 = base ++ acc then gGo bd e ρ base xs (acc ++ [.lst l]) else none
      | _ => none
    | none => none
def nlsC (n k : Nat) : Cell := .nls ((List.range k).map fun j => .c (n + j))
noncomputable def evCompG (src : SI) (bd : Bnd) (e : Sx) (own : List Nat) : Sx := fun ρ S => (src ρ S).bind fun s S1 => match s.g with
  | [] => if s.items.length ≤ sizeLine then match gGo bd e (wipeE ρ own) S1 s.items [] with
      | some acc => .ok (.g (acc ++ [nlsC S1.length acc.length]) acc.length) S1
      | none => .no
    else .no
  | _ => .no
theorem prot_pushs {as : List Addr} {D : Addr} : (A.prot D).pushs as = (A.pushs as).prot D := rfl
theorem pushs_push {as : List Addr} {a : Addr} : (A.pushs as).push a = A.pushs (as ++ [a]) := by
  unfold Wd.pushs Wd.push
  rw [List.append_assoc]
theorem nls_ok {W : Wd} {n : Nat} : ∀ (as : List Addr), (∀ (j : Nat) (a : Addr), as[j]? = some a → W.A[n + j]? = some a) → Paired (ItmOk K W H) (as.map V.ref) ((List.range as.length).map fun j => .c (n + j)) := by
  have key : ∀ (as : List Addr) (k : Nat), (∀ (j : Nat) (a : Addr), as[j]? = some a → W.A[n + (k + j)]? = some a) → Paired (ItmOk K W H) (as.map V.ref) ((List.range as.length).map fun j => .c (n + (k + j))) := by
    intro as
    induction as with
    | nil => intro k h; exact .nil
    | cons a as ih =>
      intro k h
      rw [List.length_cons, List.range_succ_eq_map, List.map_cons, List.map_cons, List.map_map]
      refine .cons ⟨a, h 0 a rfl, rfl⟩ ?_
      have z := ih (k + 1) fun j b hb => by
        have := h (j + 1) b hb
        rwa [show k + (j + 1) = k + 1 + j by omega] at this
      have e : ((fun j => Itm.c (n + (k + j))) ∘ Nat.succ) = fun j => Itm.c (n + (k + 1 + j)) := by
        funext j
        show Itm.c (n + (k + (j + 1))) = _
        rw [show k + (j + 1) = k + 1 + j by omega]
      rw [e]
      exact z
  intro as h
  have z := key as 0 fun j a ha => by rw [Nat.zero_add]; exact h j a ha
  simpa using z
theorem comp_okG {src : SI} {bd : Bnd} {e : Sx} {own : List Nat} (hsub : ∀ j ∈ bd.sl, j ∈ own) (h : tE K (evCompG src bd e own) σ H Q) : tLc (tI K src) (tG K bd) (tB K bYes) (tE K e) own σ H Q := by
  obtain ⟨A, S, ρ, w, env, p⟩ := h
  refine ⟨A, S, ρ, w, env, PostI.seq (P := Post K A H Q) p (fun h => h) (fun _ _ h => h) fun s S1 J B H1 e1 w1 sw b1 p1 => ?_⟩
  split at p1
  case h_2 => exact p1.elim
  rename_i hg
  split at p1
  case isFalse => exact p1.elim
  rename_i hlen
  split at p1
  case h_2 => exact p1.elim
  rename_i fin hfin
  have gk : ∀ S, GOk S s := fun S p hp => by rw [hg] at hp; cases hp
  intro D hD
  have hDP : D ∉ A.P := fun m => w1.off hD (Wd.mem.mpr (.inl m))
  obtain ⟨wD, kD⟩ := w1.protNew (u := .lst []) trivial hD
  have envD := ((env.mono e1).wipe own).kx kD
  refine ⟨fun i m H' => i + m = s.items.length ∧ ∃ (acc : List Cell) (as : List Addr), acc.length ≤ i ∧ as.length = acc.length ∧ Wf K ((A.prot D).pushs as) (S1 ++ acc) H' ∧ (∀ b o, H1 b = some o → b ∉ A.A → H' b = some o) ∧ (∀ b ∈ as, H1 b = none) ∧ H' D = some (.lst (as.map V.ref)) ∧
      B ((A.prot D).pushs as) H' ∧ REnv K ((A.prot D).pushs as) H' (wipeE ρ own) (wipe σ own) ∧ gGo bd e (wipeE ρ own) S1 (s.items.drop i) acc = some fin,
    ⟨s.items.length, by simp, [], [], Nat.le_refl _, rfl, ?_, ?_, by simp, upd_same, ?_, ?_, hfin⟩, ?_⟩
  · have : (A.prot D).pushs [] = A.prot D := by unfold Wd.pushs; rw [List.append_nil]
    rw [this, List.append_nil]
    exact wD
  · intro b o hb nb
    rw [upd_ne (ne_of_none hb hD)]
    exact hb
  · have : (A.prot D).pushs [] = A.prot D := by unfold Wd.pushs; rw [List.append_nil]
    rw [this]
    exact sw.mono _ _ _ _ kD b1
  · have : (A.prot D).pushs [] = A.prot D := by unfold Wd.pushs; rw [List.append_nil]
    rw [this]
    exact envD
  rintro i m H' ⟨him, acc, as, hacc, hal, w, keep, fresh, hx, b, env, go⟩
  have nDA : D ∉ ((A.prot D).pushs as).A := (w.pr D (List.mem_cons_self)).1
  by_cases hi : i < s.items.length
  · rw [List.drop_eq_getElem_cons hi] at go
    refine .inr ⟨sw.goes i _ _ H' hi w b (gk _), fun H' => ∃ (acc : List Cell) (as : List Addr), acc.length ≤ i + 1 ∧ as.length = acc.length ∧ Wf K ((A.prot D).pushs as) (S1 ++ acc) H' ∧ (∀ b o, H1 b = some o → b ∉ A.A → H' b = some o) ∧ (∀ b ∈ as, H1 b = none) ∧ H' D = some (.lst (as.map V.ref)) ∧
      B ((A.prot D).pushs as) H' ∧ REnv K ((A.prot D).pushs as) H' (wipeE ρ own) (wipe σ own) ∧ gGo bd e (wipeE ρ own) S1 (s.items.drop (i + 1)) acc = some fin, fun H' h => ⟨m - 1, by omega, by omega, h⟩, fun x H'' y => ?_⟩
    obtain ⟨d, hd, e2, w2, r2⟩ := sw.yields i _ _ H' x H'' hi w b (gk _) y
    rw [List.getElem?_eq_getElem hi] at hd
    cases hd
    unfold gGo at go
    split at go
    case h_2 => cases go
    rename_i ρ1 hρ
    refine ⟨(A.prot D).pushs as, wipeE ρ own, _, ρ1, env.mono e2, r2, hρ, fun σ2 hl hj env2 => ⟨wipe_back hl fun j hn => hj j fun m => hn (hsub j m), (A.prot D).pushs as, S1 ++ acc, ρ1, w2, env2, ?_⟩⟩
    show PostB K _ _ _ (.ok true (S1 ++ acc))
    intro H3 e3 w3
    rw [if_pos rfl]
    refine ⟨(A.prot D).pushs as, S1 ++ acc, ρ1, w3, env2.mono e3, ?_⟩
    split at go
    case h_2 => cases go
    rename_i l S2 he
    split at go
    case isFalse => cases go
    rename_i hS
    subst hS
    rw [he]
    intro c H4 e4 w4 hc
    have e24 := (e2.trans e3).trans e4
    have hx4 := e24.keep D _ hx nDA
    have eg : Ext ((A.prot D).pushs as) H' (((A.prot D).pushs as).pushs [c]) H4 := e24.grows (K := K) fun b hb => by
      rw [List.mem_singleton.mp hb]
      exact (e2.trans e3).free w3 hc
    have epu : ((A.prot D).pushs as).push c = ((A.prot D).pushs as).pushs [c] := rfl
    have ew : ((A.prot D).pushs as).pushs [c] = (A.prot D).pushs (as ++ [c]) := by
      unfold Wd.pushs
      rw [List.append_assoc]
    rw [epu, ew] at w4
    rw [ew] at eg
    have cf : H' c = none := (e2.trans e3).free w3 hc
    obtain ⟨w5, k5⟩ := w4.protUpd (p := D) (u := .lst (as.map V.ref ++ [.ref c])) trivial (List.mem_cons_self)
    have hD1 : H1 D = none := hD
    have c1 : H1 c = none := by
      cases q : H1 c with
      | none => rfl
      | some o =>
        exfalso
        by_cases mA : c ∈ A.A
        · exact w.offA cf (List.mem_append_left _ mA)
        · rw [keep c o q mA] at cf
          cases cf
    refine ⟨as.map V.ref, hx4, ?_, acc ++ [.lst l], as ++ [c], by rw [List.length_append, List.length_singleton]; omega, by simp [hal], ?_, fun b o hb nb => ?_, fun b hb => ?_, ?_, sw.mono _ _ _ _ k5 (sw.mono _ _ _ _ eg.kx b), (env.mono eg).kx k5, go⟩
    · rw [List.length_map]
      omega
    · rw [← List.append_assoc]
      exact w5
    · rw [upd_ne (ne_of_none hb hD1)]
      refine e24.keep b o (keep b o hb nb) fun m => ?_
      rcases List.mem_append.mp m with m | m
      · exact nb m
      · rw [fresh b m] at hb
        cases hb
    · rcases List.mem_append.mp hb with hb | hb
      · exact fresh b hb
      · rw [List.mem_singleton.mp hb]
        exact c1
    · rw [List.map_append]
      exact upd_same
  · have hn : i = s.items.length := by omega
    subst hn
    rw [List.drop_length] at go
    unfold gGo at go
    cases go
    refine .inl ⟨sw.stops _ _ H' w b (gk _), ?_⟩
    have lenA : A.A.length = S1.length := w1.len
    have ex : Ext A H1 A H' := ⟨rfl, ⟨[], by simp⟩, fun _ h => .inl h, keep⟩
    have ok : CellOk K ((A.pushs as).prot D) H' D (nlsC S1.length fin.length) := by
      refine ⟨as.map V.ref, hx, ?_⟩
      rw [← hal]
      refine nls_ok as fun j a ha => ?_
      show (A.A ++ as)[S1.length + j]? = some a
      rw [List.getElem?_append_right (by omega), show S1.length + j - A.A.length = j by omega]
      exact ha
    have lt : (nlsC S1.length fin.length).lt (S1 ++ fin).length = true := by
      show ((List.range fin.length).map fun j => Itm.c (S1.length + j)).all (Itm.lt (S1 ++ fin).length) = true
      rw [List.all_eq_true]
      intro x hx
      obtain ⟨j, hj, rfl⟩ := List.mem_map.mp hx
      have := List.mem_range.mp hj
      simp [Itm.lt]
      omega
    have w6 := Wf.protOut (A := A.pushs as) w ok (show D ∉ A.P from hDP) lt
    have efr : ∀ b ∈ as ++ [D], H b = none := fun b hb => by
      rcases List.mem_append.mp hb with hb | hb
      · exact e1.free w1 (fresh b hb)
      · rw [List.mem_singleton.mp hb]
        exact e1.free w1 hD
    have p1' : Post K A H Q (.ok (.g (fin ++ [nlsC S1.length fin.length]) fin.length) S1) := p1
    refine p1' (as ++ [D]) D H' (e1.trans ex) ?_ efr (by simp [hal]) ?_
    · rw [← pushs_push, ← List.append_assoc]
      exact w6
    · rw [List.getElem?_append_right (by omega), show fin.length - as.length = 0 by omega]
      rfl
/-! ### a comprehension over a list of lists -/
open Classical in
noncomputable def nGo (i : Nat) (e : Sx) (ρ : Envi) (S : Sto) : List Itm → List PyData → Option (List PyData)
  | [], acc => some acc
  | x :: xs, acc => match e (ρ.set i (some x.val)) S with
    | .ok v S2 => if S2 = S then match v.th with
        | .d y => nGo i e ρ S xs (acc ++ [y])
        | _ => none
      else none
    | _ => none
noncomputable def evCompN (f : Sx) (i : Nat) (e : Sx) (own : List Nat) : Sx := fun ρ S => (f ρ S).bind fun v S1 => match nlsOf S1 v.th with
  | some q => if q.2.length ≤ sizeLine then match nGo i e (wipeE ρ own) S1 q.2 [] with
      | some ys => .ok (.f (.lst ys)) S1
      | none => .no
    else .no
  | none => .no
def PostN (K : Frg) (A : Wd) (H : Hp) (R : It → Hp → Prop) : Res Val → Prop
  | .ok v S => ∀ x H1, Ext A H A H1 → Wf K A S H1 → Rv K A H1 x v.th → ∃ a xs, x = .ref a ∧ H1 a = some (.lst xs) ∧ R (Itl K a) H1
  | _ => False
def tNl (K : Frg) (f : Sx) : TI := fun σ H R => At K σ H fun A ρ S => PostN K A H R (f ρ S)
theorem iNl {tg l : Expr} {f : Sx} (hl : PE X l (tE X.K f)) : PI X tg l (tNl X.K f) := ⟨fun pins s σ H R I h => by
  obtain ⟨A, S, ρ, w, env, p⟩ := h
  refine thn (hl.run pins s σ H (fun x H1 => ∃ a xs, x = .ref a ∧ H1 a = some (.lst xs) ∧ R (Itl X.K a) H1) I ⟨A, S, ρ, w, env, ?_⟩) fun v s1 ⟨x, H1, I1, r1, a, xs, ex, h1, q⟩ => ?_
  · show Post X.K A H _ (f ρ S)
    cases hf : f ρ S with
    | no => rw [hf] at p; exact p.elim
    | exc e S1 => rw [hf] at p; exact p.elim
    | ok v S1 =>
      rw [hf] at p
      exact Post.th fun x H1 e w r => p x H1 e w r
  · subst ex
    cases r1
    obtain ⟨its, rv, pl, hz⟩ := I1.list (show SqL X.K H1 a xs from .inl (.inl h1))
    refine wpAny_pyIter_list pl.isList ⟨s1.heap.objs.size, [s1.heap.objs.size], _, _, H1, rfl, ?_, turn_list a _, ⟨_, Heap.get?_push_size _ rfl, rfl, rfl⟩, one_fp I1, q⟩
    exact I1.kept (t' := s1.toks) fun b o e => Heap.get?_push_of_some _ e⟩
theorem itm_val {x : V} {d : Itm} (h : ItmOk K A H x d) : Rv K A H x d.val := by
  cases d with
  | d y => exact h
  | c n => exact h
theorem sql_one {a : Addr} {xs ys : List V} (h : H a = some (.lst xs)) (hK : SqL K H a ys → ys = xs) (q : SqL K H a ys) : ys = xs := hK q
theorem comp_okN {f : Sx} {i : Nat} {e : Sx} {own : List Nat} (hsub : i ∈ own) (h : tE K (evCompN f i e own) σ H Q) : tLc (tNl K f) (gName i) (tB K bYes) (tE K e) own σ H Q := by
  obtain ⟨A, S, ρ, w, env, p⟩ := h
  refine ⟨A, S, ρ, w, env, ?_⟩
  dsimp only [evCompN] at p
  show PostN K A H _ (f ρ S)
  cases hf : f ρ S with
  | no => rw [hf] at p; exact p
  | exc e S1 => rw [hf] at p; exact p
  | ok v S1 =>
  rw [hf] at p
  have p : Post K A H Q (match nlsOf S1 v.th with
    | some q => if q.2.length ≤ sizeLine then match nGo i e (wipeE ρ own) S1 q.2 [] with
        | some ys => .ok (.f (.lst ys)) S1
        | none => .no
      else .no
    | none => .no) := p
  intro x H1 e1 w1 r1
  split at p
  case h_2 => exact p.elim
  rename_i q hq
  obtain ⟨n, is⟩ := q
  dsimp only at p hq
  split at p
  case isFalse => exact p.elim
  rename_i hlen
  split at p
  case h_2 => exact p.elim
  rename_i fin hfin
  obtain ⟨a, ys, ha, rfl, h1, _, hS⟩ := nlsOf_ok w1 r1 hq
  refine ⟨a, ys, rfl, h1, fun D hD => ?_⟩
  have hDP : D ∉ A.P := fun m => w1.off hD (Wd.mem.mpr (.inl m))
  obtain ⟨wD, kD⟩ := w1.protNew (u := .lst []) trivial hD
  have envD := ((env.mono e1).wipe own).kx kD
  have at_ : ∀ {H' : Hp}, Wf K (A.prot D) S1 H' → ∃ zs, H' a = some (.lst zs) ∧ Paired (ItmOk K (A.prot D) H') zs is := fun w => w.ok n a _ ha hS
  refine ⟨fun j m H' => j + m = is.length ∧ ∃ acc xs, acc.length ≤ j ∧ Wf K (A.prot D) S1 H' ∧ Ext A H1 A H' ∧ H' D = some (.lst xs) ∧ RpL K (A.prot D).V H' xs acc ∧ REnv K (A.prot D) H' (wipeE ρ own) (wipe σ own) ∧ nGo i e (wipeE ρ own) S1 (is.drop j) acc = some fin,
    ⟨is.length, by simp, [], [], Nat.le_refl _, wD, .laid hD, upd_same, .nil, envD, hfin⟩, ?_⟩
  rintro j m H' ⟨hjm, acc, xs, hacc, w, ex, hx, rx, env, go⟩
  have nDA : D ∉ (A.prot D).A := (w.pr D (List.mem_cons_self)).1
  have toA : ∀ {H3 H4 : Hp}, Ext (A.prot D) H3 (A.prot D) H4 → Ext A H3 A H4 := fun q => ⟨rfl, ⟨[], by simp⟩, fun _ h => .inl h, q.keep⟩
  obtain ⟨zs, hz, pz⟩ := at_ w
  by_cases hj : j < is.length
  · rw [List.drop_eq_getElem_cons hj] at go
    obtain ⟨z0, hz0, _⟩ := paired_getI pz (List.getElem?_eq_getElem hj)
    refine .inr ⟨⟨zs, z0, .inl (.inl hz), hz0⟩, fun H' => ∃ acc xs, acc.length ≤ j + 1 ∧ Wf K (A.prot D) S1 H' ∧ Ext A H1 A H' ∧ H' D = some (.lst xs) ∧ RpL K (A.prot D).V H' xs acc ∧ REnv K (A.prot D) H' (wipeE ρ own) (wipe σ own) ∧ nGo i e (wipeE ρ own) S1 (is.drop (j + 1)) acc = some fin, fun H' h => ⟨m - 1, by omega, by omega, h⟩, fun x H'' y => ?_⟩
    obtain ⟨rfl, y⟩ := y
    have hxz := y zs (.inl (.inl hz))
    obtain ⟨d, hd, okd⟩ := paired_getX pz hxz
    rw [List.getElem?_eq_getElem hj] at hd
    cases hd
    have rv := itm_val okd
    unfold nGo at go
    split at go
    case h_2 => cases go
    rename_i v2 S2 he
    split at go
    case isFalse => cases go
    rename_i hS2
    subst hS2
    split at go
    case h_2 => cases go
    rename_i yd hy
    show _ ∧ _
    refine ⟨wipe_back (by rw [List.length_set]) fun k hk => ?_, A.prot D, S2, (wipeE ρ own).set i (some is[j].val), w, env.set rv, ?_⟩
    · rw [List.getElem?_set_ne (fun z => hk (by rw [← z]; exact hsub))]
    show PostB K _ _ _ (.ok true S2)
    intro H3 e3 w3
    rw [if_pos rfl]
    refine ⟨A.prot D, S2, (wipeE ρ own).set i (some is[j].val), w3, (env.set rv).mono e3, ?_⟩
    show Post K _ _ _ (e ((wipeE ρ own).set i (some is[j].val)) S2)
    rw [he]
    refine Post.th fun y4 H4 e4 w4 r4 => ?_
    rw [hy] at r4
    have e24 := e3.trans e4
    have hx4 := e24.keep D _ hx nDA
    obtain ⟨w5, k5⟩ := w4.protUpd (p := D) (u := .lst (xs ++ [y4])) trivial (List.mem_cons_self)
    have r4 : Rp K (A.prot D).V H4 y4 yd := r4
    refine ⟨xs, hx4, ?_, acc ++ [yd], xs ++ [y4], by rw [List.length_append, List.length_singleton]; omega, w5, ?_, upd_same, ((rx.mono e24.kp).append (.cons r4 .nil)).mono k5.2, (env.mono e24).kx k5, go⟩
    · rw [rx.length]; omega
    · refine ⟨rfl, ⟨[], by simp⟩, fun _ h => .inl h, fun c o hc nc => ?_⟩
      rw [upd_ne (fun z => by rw [z, hD] at hc; cases hc)]
      exact (ex.trans (toA e24)).keep c o hc nc
  · have hn : j = is.length := by omega
    subst hn
    rw [List.drop_length] at go
    unfold nGo at go
    cases go
    exact .inl ⟨⟨zs, .inl (.inl hz), by rw [Paired.length pz]; exact Nat.le_refl _⟩, p D H' (e1.trans ex) (w.protOut (k := .lst _) ⟨_, hx, rx⟩ hDP) (e1.free w1 hD)⟩
/-! ### the rules -/
section
variable {elt tg iter : Expr} {ifs : List Expr} {scope : Scope} {own : List (Str × Nat)} {src : SI} {bd : Bnd} {t : SB} {e f g : Sx}
theorem pe_if2 {c : Envi → Bool} {ex : Expr} (h1 : PE X ex (tE X.K f)) (h2 : PE X ex (tE X.K g)) : PE X ex (tE X.K (evIf2 c f g)) := ⟨fun pins s σ H Q I h => (tE_if2 h).elim (h1.run pins s σ H Q I) (h2.run pins s σ H Q I)⟩
theorem sCell_if2 {i : Nat} {c : Envi → Bool} {st : Stmt} (h1 : PS X st (tS X.K (sCell i f))) (h2 : PS X st (tS X.K (sCell i g))) : PS X st (tS X.K (sCell i (evIf2 c f g))) := ⟨fun pins s σ H D I h => by
  obtain ⟨A, S, ρ, w, env, p⟩ := h
  unfold sCell evIf2 at p
  split at p
  · exact h1.run pins s σ H D I ⟨A, S, ρ, w, env, p⟩
  · exact h2.run pins s σ H D I ⟨A, S, ρ, w, env, p⟩⟩
theorem eCompG (hc : X.calm = true) (hN : X.N.Nodup) (hi : PI X tg iter (tI X.K src)) (ok : BlkOk X.N X.env.scope scope own) (hsub : ∀ j ∈ bd.sl, j ∈ own.map (·.2))
    (hg : ∀ (s : Shared) (H : Hp) (C : Addr) (cl : List (Str × Addr)) (fp : List Addr), PG (X.blk s H scope (compEnvC scope cl C X.env) fp) tg (tG X.K bd))
    (he : ∀ (s : Shared) (H : Hp) (C : Addr) (cl : List (Str × Addr)) (fp : List Addr), PE (X.blk s H scope (compEnvC scope cl C X.env) fp) elt (tE X.K e)) (hs : ∀ x, foldedSetIterable iter X.env x = pure x := by intro _; rfl) :
    PE X (.ListComp elt [⟨tg, iter, [], 0⟩] scope pos) (tE X.K (evCompG src bd e (own.map (·.2)))) := PEi (pe_lc hc hN hi ok hg (fun _ _ _ _ _ => tsN) he hs) fun σ H Q => comp_okG hsub
theorem sCellLcG {y : Str} {py spos : Pos} (i : Nat) (hc : X.calm = true) (hN : X.N.Nodup) (hy : X.N[i]? = some y) (hyl : X.env.scope.names.lookup y = some .local) (hsw : swapsWith (.ListComp elt [⟨tg, iter, [], 0⟩] scope pos) (some (.Name y py)) spos.line X.env = pure true)
    (hi : PI X tg iter (tI X.K src)) (ok : BlkOk X.N X.env.scope scope own) (hsub : ∀ j ∈ bd.sl, j ∈ own.map (·.2))
    (hg : ∀ (s : Shared) (H : Hp) (C : Addr) (cl : List (Str × Addr)) (fp : List Addr), PG (X.blk s H scope (compEnvC scope cl C X.env) fp) tg (tG X.K bd))
    (he : ∀ (s : Shared) (H : Hp) (C : Addr) (cl : List (Str × Addr)) (fp : List Addr), PE (X.blk s H scope (compEnvC scope cl C X.env) fp) elt (tE X.K e)) (hs : ∀ x, foldedSetIterable iter X.env x = pure x := by intro _; rfl) :
    PS X (.Assign [.Name y py] (.ListComp elt [⟨tg, iter, [], 0⟩] scope pos) spos) (tS X.K (sCell i (evCompG src bd e (own.map (·.2))))) := PSi (ps_setLc hc hN hy hyl hsw hi ok hg (fun _ _ _ _ _ => tsN) he hs) fun D σ H h => comp_okG hsub (cell_ok h)
theorem eCompN {i : Nat} (hc : X.calm = true) (hN : X.N.Nodup) (hi : PE X iter (tE X.K f)) (ok : BlkOk X.N X.env.scope scope own) (hsub : i ∈ own.map (·.2))
    (hg : ∀ (s : Shared) (H : Hp) (C : Addr) (cl : List (Str × Addr)) (fp : List Addr), PG (X.blk s H scope (compEnvC scope cl C X.env) fp) tg (gName i))
    (he : ∀ (s : Shared) (H : Hp) (C : Addr) (cl : List (Str × Addr)) (fp : List Addr), PE (X.blk s H scope (compEnvC scope cl C X.env) fp) elt (tE X.K e)) (hs : ∀ x, foldedSetIterable iter X.env x = pure x := by intro _; rfl) :
    PE X (.ListComp elt [⟨tg, iter, [], 0⟩] scope pos) (tE X.K (evCompN f i e (own.map (·.2)))) := PEi (pe_lc hc hN (iNl hi) ok hg (fun _ _ _ _ _ => tsN) he hs) fun σ H Q => comp_okN hsub
end
/-! ### x[i], x[j] = a, b -/
def sSwp (o1 k1 o2 k2 : Sx) (f : SA) : Ss := fun ρ S => (f ρ S).bind fun vs S1 => match vs with
  | [x1, x2] => (o1 ρ S1).bind fun v1 S2 => (k1 ρ S2).bind fun i1 S3 => match gPut v1.th i1.th x1 S3 with
    | some S4 => (o2 ρ S4).bind fun v2 S5 => (k2 ρ S5).bind fun i2 S6 => match gPut v2.th i2.th x2 S6 with
      | some S7 => .ok (.nx ρ) S7
      | none => .no
    | none => .no
  | _ => .no
theorem sSwpR {e1 e2 i1 i2 a1 a2 : Expr} {o1 k1 o2 k2 : Sx} {f : SA} {p1 p2 pt pt2 : Pos} {kt kt2} (hu : X.A.units + 100 < cLine) (hc : X.calm = true) (ha : PA X [a1, a2] (tAr X.K f)) (ho1 : PE X e1 (tE X.K o1)) (hk1 : PE X i1 (tE X.K k1)) (ho2 : PE X e2 (tE X.K o2)) (hk2 : PE X i2 (tE X.K k2))
    (hx1 : ∀ v, assign (.Subscript e1 i1 p1) X.env v = (do
      let ov ← holding [v] (eval e1 X.env)
      let iv ← holding [v, ov] (eval i1 X.env)
      standAt p1
      holding [v, ov, iv] (setItem ov iv v)
      release [v, ov, iv] []) := by intro _; rfl)
    (hx2 : ∀ v, assign (.Subscript e2 i2 p2) X.env v = (do
      let ov ← holding [v] (eval e2 X.env)
      let iv ← holding [v, ov] (eval i2 X.env)
      standAt p2
      holding [v, ov, iv] (setItem ov iv v)
      release [v, ov, iv] []) := by intro _; rfl)
    (hn : (assignEach [.Subscript e1 i1 p1, .Subscript e2 i2 p2] X.env).length = 2 := by rfl) (hst : (assignEach [.Subscript e1 i1 p1, .Subscript e2 i2 p2] X.env).findIdx? (·.1) = none := by rfl)
    (hs1 : (assignEach [.Subscript e1 i1 p1, .Subscript e2 i2 p2] X.env).map (·.2) = assign (.Subscript e1 i1 p1) X.env :: (assignEach [.Subscript e2 i2 p2] X.env).map (·.2) := by rfl)
    (hs2 : (assignEach [.Subscript e2 i2 p2] X.env).map (·.2) = assign (.Subscript e2 i2 p2) X.env :: (assignEach [] X.env).map (·.2) := by rfl)
    (hs : swapsWithSole [.Tuple [.Subscript e1 i1 p1, .Subscript e2 i2 p2] kt pt] (.Tuple [a1, a2] kt2 pt2) pos.line X.env = pure false := by rfl) (hw : swappedStores [.Tuple [.Subscript e1 i1 p1, .Subscript e2 i2 p2] kt pt] (.Tuple [a1, a2] kt2 pt2) X.env = pure none := by rfl)
    (h1 : (assignEach [.Tuple [.Subscript e1 i1 p1, .Subscript e2 i2 p2] kt pt] X.env).map (·.2) = [assign (.Tuple [.Subscript e1 i1 p1, .Subscript e2 i2 p2] kt pt) X.env] := by rfl) :
    PS X (.Assign [.Tuple [.Subscript e1 i1 p1, .Subscript e2 i2 p2] kt pt] (.Tuple [a1, a2] kt2 pt2) pos) (tS X.K (sSwp o1 k1 o2 k2 f)) :=
  PSi (ps_asg (pe_tup ha) (pg_tup hc (pgs_cons (pg_sub ho1 hk1 (set_any (by omega)) hx1) (pgs_cons (pg_sub ho2 hk2 (set_any (by omega)) hx2) pgs_nil hs2) hs1) hn hst) hs hw h1) fun D σ H ⟨A, S, ρ, w, env, p⟩ =>
    ⟨A, S, ρ, w, env, PostA.seq (P := PostS X.K A H D) p (fun h => h) (fun _ _ h => h) fun vs S1 xs H1 ee1 w1 r1 p1 => by
      split at p1
      case h_2 => exact p1.elim
      rename_i x1 x2
      cases r1 with | cons q1 r1 =>
      cases r1 with | cons q2 r1 =>
      cases r1
      rename_i xv1 xv2
      refine ⟨line1000 (show 2 ≤ 1000 by decide), fun q hq => ⟨q, [xv1, xv2], rfl, .inl (.inl upd_same), rfl, xv1, [xv2], rfl, ?_⟩⟩
      have eL : Ext A H1 A (L2.upd H1 q (.tup [xv1, xv2])) := .laid hq
      have w2 := w1.laid (o := .tup [xv1, xv2]) hq
      have env2 := (env.mono ee1).mono eL
      have p2 := PostS.shift (PostS.shift p1 ee1 w1) eL w2
      refine at_seq (P := PostS X.K A (L2.upd H1 q (.tup [xv1, xv2])) D) w2 env2 p2 (fun h => h) (fun _ _ h => h) fun v1 S2 ov1 H2 e2 w3 rv1 p3 => ?_
      refine at_seq (P := PostS X.K A (L2.upd H1 q (.tup [xv1, xv2])) D) w3 (env2.mono e2) p3 (fun h => h) (fun _ _ h => h) fun i1 S3 iv1 H3 e3 w4 ri1 p4 => ?_
      split at p4
      case h_2 => exact p4.elim
      rename_i S4 h4
      refine ⟨A, S3, v1.th, i1.th, x1, S4, w4, rv1.mono e3, ri1, (q1.mono eL).mono (e2.trans e3), h4, fun H4 e4 w5 => ?_⟩
      have e14 := (e2.trans e3).trans e4
      refine ⟨xv2, [], rfl, ?_⟩
      refine at_seq (P := PostS X.K A (L2.upd H1 q (.tup [xv1, xv2])) D) w5 (env2.mono e14) p4 (fun h => h) (fun _ _ h => h) fun v2 S5 ov2 H5 e5 w6 rv2 p5 => ?_
      refine at_seq (P := PostS X.K A (L2.upd H1 q (.tup [xv1, xv2])) D) w6 ((env2.mono e14).mono e5) p5 (fun h => h) (fun _ _ h => h) fun i2 S6 iv2 H6 e6 w7 ri2 p6 => ?_
      split at p6
      case h_2 => exact p6.elim
      rename_i S7 h7
      refine ⟨A, S6, v2.th, i2.th, x2, S7, w7, rv2.mono e6, ri2, ((q2.mono eL).mono e14).mono (e5.trans e6), h7, fun H7 e7 w8 => ⟨rfl, ?_⟩⟩
      have e17 := (e14.trans (e5.trans e6)).trans e7
      exact p6 A σ H7 e17 w8 (env2.mono e17)⟩
end
end MV
set_option Elab.async false
set_option linter.all false
set_option maxRecDepth 100000
/-! x.extend(t), t a tuple. -/
namespace PySem
open PySem.AutoSeq1 in
theorem meets_extendT (l b : Addr) (xs ys : Array Value) (n m : Nat) (dd : Option Addr) (sl : Array (Option Value)) (h0 : ¬(!xs.isEmpty && Builtin.List.listTooLong (xs.size + ys.size)) = true) (h1 : xs.size ≤ sizeLine) (h2 : xs.size + ys.size ≤ sizeLine + 1) :
    Meets (Builtin.«list.extend» ⟨[.ref l, .ref b], []⟩) (fun _ R s => s.heap.get? l = some { cls := .type "list", data := .seq xs n } ∧
      s.heap.get? b = some { cls := .type "tuple", dict := dd, data := .seq ys m, slots := sl } ∧ R (.ok (.ret Value.none)) { s with heap := s.heap.update l (Obj.mapSeq fun z => z ++ ys) }) :=
  .of_wp fun prog w A R s h => by
    obtain ⟨hp, g, d, tk, os⟩ := s
    obtain ⟨q1, q2, h⟩ := h
    have u1 := idx_int
    have u2 := sub_tuple_tuple
    have u3 := sub_list_list
    have u4 := sub_tuple_list
    have u5 := sub_list_tuple
    have hz : (xs ++ ys).size ≤ sizeLine + 1 := by rw [Array.size_append]; exact h2
    wp_walk using (wpAny_updateSeq q1 rfl (hz := h1) (_hz' := hz)), wpAny_loadPart' q1, wpAny_loadPart' q2
    exact ⟨_, rfl, h⟩
end PySem
namespace MV
open PySem PySem.Spec PyProof.Rows L2
section
variable {X : Cx}
def gExtendT (v : Val) (vs : List Val) (S : Sto) : Res Val := match cellL S v, vs with
  | some (n, ds), [.d (.tuple es)] => if ds.length + es.length ≤ sizeLine then .ok (.d .none) (S.set n (.lst (ds ++ es))) else .no
  | _, _ => .no
theorem mExtendT : MRul X "list.extend" gExtendT := by
  intro pins s σ A S H x xs u us v vs Q I wf rv rvs ru rus p
  unfold gExtendT at p
  split at p
  · rename_i n ds es h1
    split at p
    · rename_i hl
      obtain ⟨a, ys, ha, ma, rfl, h2, h3⟩ := cellL_ok wf rv h1
      cases rvs with | cons r1 r2 =>
      cases r2
      cases r1 with | tup ht hr =>
      obtain ⟨its2, r2, ⟨o, ho, hc, m, hd⟩, z2⟩ := I.tuple ht.seq
      cases ru
      obtain ⟨w, rfl, rw'⟩ := rus.one
      cases rw'
      obtain ⟨z, its, n0, r, hl1, e⟩ := I.lstM h2
      have l1 := h3.length
      have l2 := hr.length
      have l3 := r2.length
      have hsz : its.toArray.size + its2.toArray.size ≤ sizeLine := by rw [List.size_toArray, List.size_toArray]; omega
      obtain ⟨oc, od, odt, osl⟩ := o
      dsimp only at hc hd
      subst hc hd
      refine call_meets F.slot_list_extend ⟨_, e, rfl⟩ F.entry_list_extend (F.args_list_extend_2 _ _)
        (meets_extendT a _ its.toArray its2.toArray n0 m od osl (by rw [notLongL hsz, Bool.and_false]; exact Bool.false_ne_true) (by rw [List.size_toArray]; omega) (by omega)) ⟨e, ho, ?_⟩
      have I2 := I.lset (t' := s.toks) (its' := its ++ its2) (f := fun z => z ++ its2.toArray) h2 e (by simp) (r.append r2) (by rw [List.length_append]; omega)
      exact ⟨.non, _, I2, rfl, p.put wf ha (h3.append hr) .non⟩
    · exact p.elim
  · exact p.elim
/-- a list taken apart -/
def bTupL (bs : List Bnd) : Bnd := ⟨slL bs, fun x ρ => match x with
  | .list ds => goL bs ds ρ
  | _ => none⟩
theorem gTL {pos : Pos} {es : List Expr} {k : Nat} {bs : List Bnd} {n : Nat} (hc : X.calm = true) (h : PGs X es (tGs X.K bs)) (hnb : bs.length = n := by rfl)
    (hn : (assignEach es X.env).length = n := by rfl) (hst : (assignEach es X.env).findIdx? (·.1) = none := by rfl) : PG X (.Tuple es k pos) (tG X.K (bTupL bs)) :=
  ⟨fun pins s σ H v u Q I r hw => (pg_lst hc h hn hst).run pins s σ H v u Q I r (by
    obtain ⟨A, ρ, x, ρ', env, rp, e, q⟩ := hw
    cases rp with
    | lst l t =>
      rename_i a xs ds
      exact ⟨a, xs, rfl, l.seq, by rw [t.length, goL_len e, hnb], A, ρ, ds, ρ', env, t, e, q⟩
    | _ => cases e)⟩
end
end MV
set_option Elab.async false
set_option linter.all false
set_option maxRecDepth 100000
set_option maxHeartbeats 1000000
/-! Mirrors evaluated: what a mirror's run comes to, step by step. -/
namespace MV
open PySem PySem.Spec PyProof.Rows L2
/-! ### runs -/
@[irreducible] def wp {α : Type} (r : Res α) (Q : α → Sto → Prop) : Prop := match r with
  | .ok a S => Q a S
  | _ => False
section
variable {α β : Type} {Q P : α → Sto → Prop} {S : Sto} {a : α} {r : Res α}
@[simp] theorem wp_ok : wp (.ok a S) Q = Q a S := by unfold wp; rfl
@[simp] theorem wp_no : wp (Res.no : Res α) Q = False := by unfold wp; rfl
@[simp] theorem wp_exc {e : Exn} : wp (Res.exc e S : Res α) Q = False := by unfold wp; rfl
theorem wp_bind {g : α → Sto → Res β} {R : β → Sto → Prop} : wp (r.bind g) R = wp r fun a S => wp (g a S) R := by
  cases r with
  | ok a S => rw [wp_ok]; rfl
  | exc e S => rw [wp_exc]; exact wp_exc
  | no => rw [wp_no]; exact wp_no
theorem wp.mono (h : wp r P) (i : ∀ a S, P a S → Q a S) : wp r Q := by
  cases r with
  | ok a S => rw [wp_ok] at h ⊢; exact i _ _ h
  | exc e S => rw [wp_exc] at h; exact h.elim
  | no => rw [wp_no] at h; exact h.elim
theorem wp.ex (h : wp r Q) : ∃ a S, r = .ok a S ∧ Q a S := by
  cases r with
  | ok a S => rw [wp_ok] at h; exact ⟨_, _, rfl, h⟩
  | exc e S => rw [wp_exc] at h; exact h.elim
  | no => rw [wp_no] at h; exact h.elim
theorem wp_of (h : r = .ok a S) (q : Q a S) : wp r Q := by rw [h, wp_ok]; exact q
@[simp] theorem bind_ok {g : α → Sto → Res β} : Res.bind (.ok a S) g = g a S := (rfl)
@[simp] theorem bind_no {g : α → Sto → Res β} : Res.bind .no g = .no := (rfl)
@[simp] theorem bind_exc {e : Exn} {g : α → Sto → Res β} : Res.bind (.exc e S) g = .exc e S := (rfl)
theorem bind_of {g : α → Sto → Res β} (h : r = .ok a S) : r.bind g = g a S := by rw [h, bind_ok]
@[simp] theorem bind_assoc {γ : Type} {g : α → Sto → Res β} {k : β → Sto → Res γ} : (r.bind g).bind k = r.bind fun a S => (g a S).bind k := by cases r <;> rfl
end
/-! ### each construct at a frame and a store -/
section
variable {ρ : Envi} {S : Sto} {f g h : Sx} {a : SA} {t u : SB} {s s' : Ss} {i j : Nat}
@[simp] theorem th_d {x : PyData} : (Val.d x).th = .d x := (rfl)
@[simp] theorem th_c {n : Nat} : (Val.c n).th = .c n := (rfl)
@[simp] theorem th_z {n : List PyData} : (Val.z n).th = .z n := (rfl)
@[simp] theorem lt_lst {n : Nat} {ds : List PyData} : Cell.lt n (.lst ds) = true := (rfl)
@[simp] theorem lt_dic {n : Nat} {ds : List (PyData × PyData)} : Cell.lt n (.dic ds) = true := (rfl)
@[simp] theorem th_f {ds : List PyData} : (Val.f (.lst ds)).th = .d (.list ds) := (rfl)
@[simp] theorem th_fd {ds : List (PyData × PyData)} : (Val.f (.dic ds)).th = .d (.dict ds) := (rfl)
@[simp] theorem data_lst {ds : List PyData} : (Cell.lst ds).data = .list ds := (rfl)
@[simp] theorem data_dic {ds : List (PyData × PyData)} : (Cell.dic ds).data = .dict ds := (rfl)
@[simp] theorem e_V : evV i ρ S = (match ρ[i]? with | some (some v) => .ok v S | _ => .no) := (rfl)
@[simp] theorem e_K {x : PyData} : evK x ρ S = .ok (.d x) S := (rfl)
@[simp] theorem e_2 {o : Val → Val → Sto → Res Val} : ev2 o f g ρ S = (f ρ S).bind fun v S1 => (g ρ S1).bind fun w S2 => o v.th w.th S2 := (rfl)
@[simp] theorem e_tst : tst f ρ S = (f ρ S).bind fun v S1 => (match v with | .d (.bool b) => .ok b S1 | _ => .no) := (rfl)
@[simp] theorem e_bAnd : bAnd t u ρ S = (t ρ S).bind fun c S1 => if c = true then u ρ S1 else .ok false S1 := (rfl)
@[simp] theorem e_bOr : bOr t u ρ S = (t ρ S).bind fun c S1 => if c = true then .ok true S1 else u ρ S1 := (rfl)
@[simp] theorem e_bNot : bNot t ρ S = (t ρ S).bind fun c S1 => .ok (!c) S1 := (rfl)
@[simp] theorem e_And : evAnd f g ρ S = (tst f ρ S).bind fun c S1 => if c = true then g ρ S1 else .ok (.d (.bool false)) S1 := (rfl)
@[simp] theorem e_Or : evOr f g ρ S = (tst f ρ S).bind fun c S1 => if c = true then .ok (.d (.bool true)) S1 else g ρ S1 := (rfl)
@[simp] theorem e_Not : evNot f ρ S = (tst f ρ S).bind fun c S1 => .ok (.d (.bool (!c))) S1 := (rfl)
@[simp] theorem e_If : evIf t f g ρ S = (t ρ S).bind fun k S1 => if k = true then f ρ S1 else g ρ S1 := (rfl)
@[simp] theorem e_Un {o : Int → Int} : evUn o f ρ S = (f ρ S).bind fun v S1 => (match v with | .d (.int i) => .ok (.d (.int (o i))) S1 | _ => .no) := (rfl)
@[simp] theorem e_Chain {o o' : Val → Val → Sto → Res Val} : evChain o o' f g h ρ S = (f ρ S).bind fun v S1 => (g ρ S1).bind fun w S2 => (o v.th w.th S2).bind fun z S3 => (match z with
  | .d (.bool true) => (h ρ S3).bind fun u S4 => o' w.th u.th S4
  | .d (.bool false) => .ok z S3
  | _ => .no) := (rfl)
@[simp] theorem e_aNil : aNil ρ S = .ok [] S := (rfl)
@[simp] theorem e_aCons : aCons f a ρ S = (f ρ S).bind fun v S1 => (a ρ S1).bind fun vs S2 => .ok (v.th :: vs) S2 := (rfl)
@[simp] theorem e_Tup : evTup a ρ S = (a ρ S).bind fun vs S1 => (match datas vs with | some ds => if ds.length ≤ 1000 then .ok (.d (.tuple ds)) S1 else .no | none => .no) := (rfl)
@[simp] theorem e_Lst : evLst a ρ S = (a ρ S).bind fun vs S1 => (match datas vs with | some ds => if ds.length ≤ 1000 then .ok (.f (.lst ds)) S1 else .no | none => .no) := (rfl)
@[simp] theorem datas_nil : datas [] = some [] := (rfl)
@[simp] theorem datas_d {x : PyData} {r : List Val} : datas (.d x :: r) = (datas r).map (x :: ·) := (rfl)
@[simp] theorem e_Call {m : List Val → Sto → Res Val} : evCall m a ρ S = (a ρ S).bind m := (rfl)
@[simp] theorem e_sNil : sNil ρ S = .ok (.nx ρ) S := (rfl)
@[simp] theorem e_sSeq : sSeq s s' ρ S = (s ρ S).bind fun w S1 => (match w with | .nx ρ1 => s' ρ1 S1 | .rt v => .ok (.rt v) S1 | .bk ρ1 => .ok (.bk ρ1) S1 | .ct ρ1 => .ok (.ct ρ1) S1) := (rfl)
@[simp] theorem e_sBk : sBk ρ S = .ok (.bk ρ) S := (rfl)
@[simp] theorem e_sCt : sCt ρ S = .ok (.ct ρ) S := (rfl)
@[simp] theorem e_sEx : sEx f ρ S = (f ρ S).bind fun _ S1 => .ok (.nx ρ) S1 := (rfl)
@[simp] theorem e_sRt : sRt f ρ S = (f ρ S).bind fun v S1 => .ok (.rt v) S1 := (rfl)
@[simp] theorem e_sRtN : sRtN ρ S = .ok (.rt (.d .none)) S := (rfl)
@[simp] theorem e_sIf : sIf t s s' ρ S = (t ρ S).bind fun k S1 => if k = true then s ρ S1 else s' ρ S1 := (rfl)
@[simp] theorem e_sSet : sSet i f ρ S = (f ρ S).bind fun v S1 => .ok (.nx (ρ.set i (some v.th))) S1 := (rfl)
@[simp] theorem e_sCell : sCell i f ρ S = (f ρ S).bind fun v S1 => (match v with | .f k => .ok (.nx (ρ.set i (some (.c S1.length)))) (S1 ++ [k]) | .g cs j => .ok (.nx (ρ.set i (some (.c (S1.length + j))))) (S1 ++ cs) | _ => .no) := (rfl)
@[simp] theorem e_sAsg {b : Bnd} : sAsg f b ρ S = (f ρ S).bind fun v S1 => (match v.th with | .d x => (match b.go x ρ with | some ρ1 => .ok (.nx ρ1) S1 | none => .no) | _ => .no) := (rfl)
@[simp] theorem e_sPar : sPar i j a ρ S = (a ρ S).bind fun vs S1 => (match vs with | [v, w] => .ok (.nx ((ρ.set i (some v)).set j (some w))) S1 | _ => .no) := (rfl)
@[simp] theorem e_sPar3 {l : Nat} : sPar3 i j l a ρ S = (a ρ S).bind fun vs S1 => (match vs with | [u, v, w] => .ok (.nx (((ρ.set i (some u)).set j (some v)).set l (some w))) S1 | _ => .no) := (rfl)
@[simp] theorem e_sMul {is : List Nat} : sMul is a ρ S = (a ρ S).bind fun vs S1 => if vs.length = is.length ∧ vs.length ≤ 1000 then .ok (.nx (setAll ρ is vs)) S1 else .no := (rfl)
@[simp] theorem e_setAll {v : Val} {is : List Nat} {vs : List Val} : setAll ρ (i :: is) (v :: vs) = setAll (ρ.set i (some v)) is vs := (rfl)
@[simp] theorem e_setAll0 {vs : List Val} : setAll ρ [] vs = ρ := by cases vs <;> rfl
@[simp] theorem e_aCell : aCell f a ρ S = (f ρ S).bind fun v S1 => (match v with | .f k => (a ρ (S1 ++ [k])).bind fun vs S2 => .ok (.c S1.length :: vs) S2 | .g cs j => (a ρ (S1 ++ cs)).bind fun vs S2 => .ok (.c (S1.length + j) :: vs) S2 | _ => .no) := (rfl)
@[simp] theorem e_sPut : sPut f g h ρ S = (h ρ S).bind fun x S1 => (f ρ S1).bind fun v S2 => (g ρ S2).bind fun i S3 => (match gPut v.th i.th x.th S3 with | some S4 => .ok (.nx ρ) S4 | none => .no) := (rfl)
@[simp] theorem e_sAug {o : Val → Val → Sto → Res Val} : sAug i o f ρ S = (match ρ[i]? with | some (some v) => (f ρ S).bind fun w S1 => (o v w.th S1).bind fun z S2 => .ok (.nx (ρ.set i (some z.th))) S2 | _ => .no) := (rfl)
@[simp] theorem e_Mt {T : String} {m : Val → List Val → Sto → Res Val} : evMt T m f a ρ S = (f ρ S).bind fun v S1 => if tyB T S1 v.th = true then (a ρ S1).bind fun vs S2 => m v.th vs S2 else .no := (rfl)
theorem mt_eval {T : String} {m : Val → List Val → Sto → Res Val} {v : Val} {S1 : Sto} (hf : f ρ S = .ok v S1) (ht : tyB T S1 v.th = true) : evMt T m f a ρ S = (a ρ S1).bind fun vs S2 => m v.th vs S2 := by
  rw [e_Mt, hf, bind_ok, if_pos ht]
@[simp] theorem e_Isi {T : String} : evIsi T f ρ S = (f ρ S).bind fun v S1 => (match kind S1 v.th with | some t => .ok (.d (.bool (isOf T t))) S1 | none => .no) := (rfl)
@[simp] theorem e_oNo : oNo ρ S = .ok none S := (rfl)
@[simp] theorem e_oYes : oYes f ρ S = (f ρ S).bind fun v S1 => (match v with | .d (.int i) => .ok (some i) S1 | _ => .no) := (rfl)
@[simp] theorem e_Sl {lo hi : SO} : evSl f lo hi ρ S = (f ρ S).bind fun v S1 => (lo ρ S1).bind fun l S2 => (hi ρ S2).bind fun h S3 => gSl v.th l h S3 := (rfl)
@[simp] theorem e_iSeq : iSeq f ρ S = (f ρ S).bind fun v S1 => (match seqOf S1 v.th with | some (_, ds, g) => .ok ⟨ds, g⟩ S1 | none => .no) := (rfl)
@[simp] theorem e_iBy {m : List Val → Option Src} : iBy m a ρ S = (a ρ S).bind fun vs S1 => (match m vs with | some s => .ok s S1 | none => .no) := (rfl)
@[simp] theorem e_iByS {m : Sto → List Val → Option Src} : iByS m a ρ S = (a ρ S).bind fun vs S1 => (match m S1 vs with | some s => .ok s S1 | none => .no) := (rfl)
@[simp] theorem go_name {x : PyData} : (bName i).go x ρ = some (ρ.set i (some (.d x))) := (rfl)
@[simp] theorem go_tup {bs : List Bnd} {ds : List PyData} : (bTup bs).go (.tuple ds) ρ = goL bs ds ρ := (rfl)
@[simp] theorem goL_nil : goL [] [] ρ = some ρ := (rfl)
@[simp] theorem goL_cons {b : Bnd} {bs : List Bnd} {x : PyData} {xs : List PyData} : goL (b :: bs) (x :: xs) ρ = (match b.go x ρ with | some ρ1 => goL bs xs ρ1 | none => none) := (rfl)
@[simp] theorem e_bYes : bYes ρ S = .ok true S := (rfl)
end
/-! ### operators -/
section
variable {S : Sto} {i j : Int} {ds es : List PyData} {n : Nat}
@[simp] theorem o_int {C : Int → Int → Bool} {g : Int → Int → PyData} : gInt C g (.d (.int i)) (.d (.int j)) S = if C i j = true then .ok (.d (g i j)) S else .no := (rfl)
@[simp] theorem o_sub : gSub (.d (.int i)) (.d (.int j)) S = .ok (.d (.int (i - j))) S := (rfl)
@[simp] theorem o_add : gAdd (.d (.int i)) (.d (.int j)) S = .ok (.d (.int (i + j))) S := (rfl)
@[simp] theorem o_div (h1 : 0 < j) (h2 : j < 1152921504606846976) : gDiv (.d (.int i)) (.d (.int j)) S = .ok (.d (.int (i / j))) S := by
  show (if decide _ = true then _ else _) = _
  have h3 : j.natAbs.log2 < 60 := (Nat.log2_lt (by omega)).mpr (by omega)
  rw [decide_eq_true ⟨h1, by omega⟩, if_pos rfl]
@[simp] theorem o_mod (h : 0 < j) : gMod (.d (.int i)) (.d (.int j)) S = .ok (.d (.int (i % j))) S := by
  show (if decide _ = true then _ else _) = _
  rw [decide_eq_true h, if_pos rfl]
theorem mulOk_l (h : -(2 ^ 64) < i ∧ i < 2 ^ 64) : mulOk i j = true := decide_eq_true (.inl (.inl h))
theorem mulOk_r (h : -(2 ^ 64) < j ∧ j < 2 ^ 64) : mulOk i j = true := decide_eq_true (.inl (.inr h))
theorem o_mul (h : mulOk i j = true) : gMul (.d (.int i)) (.d (.int j)) S = .ok (.d (.int (i * j))) S := if_pos h
@[simp] theorem o_mulL (h1 : -18446744073709551616 < i) (h2 : i < 18446744073709551616) : gMul (.d (.int i)) (.d (.int j)) S = .ok (.d (.int (i * j))) S := if_pos (mulOk_l (by omega))
@[simp] theorem o_mulR (h1 : -18446744073709551616 < j) (h2 : j < 18446744073709551616) : gMul (.d (.int i)) (.d (.int j)) S = .ok (.d (.int (i * j))) S := if_pos (mulOk_r (by omega))
@[simp] theorem o_lt : gLt (.d (.int i)) (.d (.int j)) S = .ok (.d (.bool (decide (i < j)))) S := (rfl)
@[simp] theorem o_le : gLe (.d (.int i)) (.d (.int j)) S = .ok (.d (.bool (decide (i ≤ j)))) S := (rfl)
@[simp] theorem o_gt : gGt (.d (.int i)) (.d (.int j)) S = .ok (.d (.bool (decide (j < i)))) S := (rfl)
@[simp] theorem o_ge : gGe (.d (.int i)) (.d (.int j)) S = .ok (.d (.bool (decide (j ≤ i)))) S := (rfl)
@[simp] theorem o_addT (h : ds.length + es.length ≤ sizeLine) : gAdd (.d (.tuple ds)) (.d (.tuple es)) S = .ok (.d (.tuple (ds ++ es))) S := by
  show (if _ then _ else _) = _
  rw [if_pos h]
@[simp] theorem asL_l : asL S (.d (.list ds)) = some ds := (rfl)
@[simp] theorem asL_t : asL S (.d (.tuple ds)) = none := (rfl)
@[simp] theorem asL_i : asL S (.d (.int i)) = none := (rfl)
@[simp] theorem asL_c : asL S (.c n) = (match S[n]? with | some (.lst ds) => some ds | _ => none) := (rfl)
@[simp] theorem asD_d {x : PyData} : asD S (.d x) = some x := (rfl)
@[simp] theorem asD_z : asD S (.z ds) = some (.list ds) := (rfl)
@[simp] theorem asD_c : asD S (.c n) = (match S[n]? with | some (.lst ds) => some (.list ds) | _ => none) := (rfl)
theorem o_addL {v w : Val} (h1 : asL S v = some ds) (h2 : asL S w = some es) (h : ds.length + es.length ≤ sizeLine) : gAdd v w S = .ok (.f (.lst (ds ++ es))) S := by
  unfold gAdd
  split
  · cases h1
  · cases h1
  · cases h1
  · rw [h1, h2]; exact if_pos h
@[simp] theorem seq_t : seqOf S (.d (.tuple ds)) = some (true, ds, []) := (rfl)
@[simp] theorem seq_l : seqOf S (.d (.list ds)) = some (false, ds, []) := (rfl)
@[simp] theorem seq_z : seqOf S (.z ds) = some (false, ds, []) := (rfl)
@[simp] theorem seq_c : seqOf S (.c n) = (match S[n]? with | some (.lst ds) => some (false, ds, [(n, ds)]) | _ => none) := (rfl)
@[simp] theorem asM_t : asM S (.d (.tuple ds)) = none := (rfl)
@[simp] theorem asM_l : asM S (.d (.list ds)) = none := (rfl)
@[simp] theorem asM_z : asM S (.z ds) = none := (rfl)
@[simp] theorem asM_i : asM S (.d (.int i)) = none := (rfl)
@[simp] theorem asM_s {x : Str} : asM S (.d (.str x)) = none := (rfl)
@[simp] theorem asM_c : asM S (.c n) = (match S[n]? with | some (.dic ps) => some ps | _ => none) := (rfl)
/-- == -/
theorem o_eq {v w : Val} {x y : PyData} (h1 : asD S v = some x) (h2 : asD S w = some y) (s1 : SeqAt.shaped x = true) (s2 : SeqAt.shaped y = true) : gEq v w S = .ok (.d (.bool (PyData.eqv x y))) S := by
  unfold gEq
  split
  · cases h1; cases h2
    rw [PyData.eqv]
    rfl
  · rw [h1, h2]
    exact if_pos ⟨s1, s2⟩
theorem o_ne {v w : Val} {x y : PyData} (h1 : asD S v = some x) (h2 : asD S w = some y) (s1 : SeqAt.shaped x = true) (s2 : SeqAt.shaped y = true) : gNe v w S = .ok (.d (.bool (!PyData.eqv x y))) S := by
  unfold gNe
  split
  · cases h1; cases h2
    rw [PyData.eqv]
    rfl
  · rw [h1, h2]
    exact if_pos ⟨s1, s2⟩
@[simp] theorem o_eqS {x y : Str} : gEq (.d (.str x)) (.d (.str y)) S = .ok (.d (.bool (decide (x = y)))) S := (rfl)
@[simp] theorem o_neS {x y : Str} : gNe (.d (.str x)) (.d (.str y)) S = .ok (.d (.bool (!decide (x = y)))) S := (rfl)
theorem shaped_int (i : Int) : SeqAt.shaped (.int i) = true := by simp [SeqAt.shaped, PyData.canLay0, PyData.depth]
theorem shaped_bool (i : Bool) : SeqAt.shaped (.bool i) = true := by simp [SeqAt.shaped, PyData.canLay0, PyData.depth]
theorem shaped_str {i : Str} (h : PyData.strOk i = true) : SeqAt.shaped (.str i) = true := by simp [SeqAt.shaped, PyData.canLay0, PyData.depth, h]
theorem shaped_none : SeqAt.shaped .none = true := by simp [SeqAt.shaped, PyData.canLay0, PyData.depth]
@[simp] theorem o_eqI : gEq (.d (.int i)) (.d (.int j)) S = .ok (.d (.bool (i == j))) S := by
  rw [o_eq (x := .int i) (y := .int j) rfl rfl (shaped_int _) (shaped_int _)]
  simp [PyData.eqv]
@[simp] theorem o_neI : gNe (.d (.int i)) (.d (.int j)) S = .ok (.d (.bool (!(i == j)))) S := by
  rw [o_ne (x := .int i) (y := .int j) rfl rfl (shaped_int _) (shaped_int _)]
  simp [PyData.eqv]
/-- in -/
theorem o_inT {d : PyData} (h : ∀ i, d ≠ .str i ∨ True) (s1 : SeqAt.shaped d = true) (s2 : SeqAt.shaped (.list ds) = true) : isIn S (.d d) (.d (.tuple ds)) = some (ds.any fun z => PyData.eqv z d) := by
  have e : isIn S (.d d) (.d (.tuple ds)) = (if SeqAt.shaped d = true ∧ SeqAt.shaped (.list ds) = true then some (ds.any fun z => PyData.eqv z d) else none) := by
    unfold isIn
    cases d <;> rfl
  rw [e, if_pos ⟨s1, s2⟩]
theorem o_inL {v : Val} {d : PyData} {n : Nat} (h : asD S v = some d) (e : S[n]? = some (.lst ds)) (s1 : SeqAt.shaped d = true) (s2 : SeqAt.shaped (.list ds) = true) : isIn S v (.c n) = some (ds.any fun z => PyData.eqv z d) := by
  have e2 : rowOf S (.c n) = some ds := by
    show (match asD S (.c n) with | some (.list ds) => some ds | _ => none) = _
    rw [asD_c, e]
  have e : isIn S v (.c n) = (if SeqAt.shaped d = true ∧ SeqAt.shaped (.list ds) = true then some (ds.any fun z => PyData.eqv z d) else none) := by
    unfold isIn
    rw [asM_c, e]
    dsimp only
    split
    · rename_i q; cases q
    · rw [h, e2]
  rw [e, if_pos ⟨s1, s2⟩]
@[simp] theorem o_isN {v : Val} : gIsN v (.d .none) S = .ok (.d (.bool (isNone v))) S := by cases v <;> rfl
@[simp] theorem o_notN {v : Val} : gNotN v (.d .none) S = .ok (.d (.bool (!isNone v))) S := by cases v <;> rfl
/-- x[i] -/
@[simp] theorem o_ixT : gIx (.d (.tuple ds)) (.d (.int i)) S = (match atI ds i with | some d => .ok (.d d) S | none => .no) := (rfl)
@[simp] theorem o_ixL : gIx (.d (.list ds)) (.d (.int i)) S = (match atI ds i with | some d => .ok (.d d) S | none => .no) := (rfl)
@[simp] theorem o_ixZ : gIx (.z ds) (.d (.int i)) S = (match atI ds i with | some d => .ok (.d d) S | none => .no) := (rfl)
theorem o_ixC (h : S[n]? = some (.lst ds)) : gIx (.c n) (.d (.int i)) S = (match atI ds i with | some d => .ok (.d d) S | none => .no) := by
  show (match asM S (.c n) with | some ps => _ | none => _) = _
  rw [asM_c, h]
  show gIxS (.c n) i S = _
  unfold gIxS
  rw [seq_c, h]
  all_goals rfl
@[simp] theorem o_slT {lo hi : Option Int} : gSl (.d (.tuple ds)) lo hi S = .ok (.d (.tuple (cutD ds lo hi))) S := (rfl)
@[simp] theorem o_slL {lo hi : Option Int} : gSl (.d (.list ds)) lo hi S = .ok (.f (.lst (cutD ds lo hi))) S := (rfl)
@[simp] theorem o_slZ {lo hi : Option Int} : gSl (.z ds) lo hi S = .ok (.f (.lst (cutD ds lo hi))) S := (rfl)
theorem o_slC {lo hi : Option Int} (h : S[n]? = some (.lst ds)) : gSl (.c n) lo hi S = .ok (.f (.lst (cutD ds lo hi))) S := by
  unfold gSl
  rw [seq_c, h]
end
/-! ### loops -/
section
variable {α : Type} {ρ : Envi} {S : Sto} {s : Src} {bd : Bnd} {b : Ss} {enc : α → PyData}
theorem chk_pos {β : Type} {r : Res β} (h : GOk S s) : chk S s r = r := if_pos h
theorem gok_nil {ds : List PyData} : GOk S ⟨ds, []⟩ := fun p h => by cases h
theorem forGo_wp (I : List α → Envi → Sto → Prop) {xs : List α} {Q : Fw → Sto → Prop} (hg : ∀ pre ρ S, I pre ρ S → GOk S s)
    (step : ∀ pre x post ρ S, xs = pre ++ x :: post → I pre ρ S → ∃ ρ1, bd.go (enc x) ρ = some ρ1 ∧ wp (b ρ1 S) fun w S2 => match w with
      | .nx ρ2 => I (pre ++ [x]) ρ2 S2
      | .ct ρ2 => I (pre ++ [x]) ρ2 S2
      | .bk ρ2 => Q (.nx ρ2) S2
      | .rt v => Q (.rt v) S2)
    (done : ∀ ρ S, I xs ρ S → Q (.nx ρ) S) : ∀ (post pre : List α) (ρ : Envi) (S : Sto), xs = pre ++ post → I pre ρ S → wp (forGo s bd b (post.map enc) ρ S) Q
  | [], pre, ρ, S, e, h => by
    rw [List.append_nil] at e
    subst e
    show wp (chk S s (.ok (.nx ρ) S)) Q
    rw [chk_pos (hg _ _ _ h), wp_ok]
    exact done _ _ h
  | x :: post, pre, ρ, S, e, h => by
    obtain ⟨ρ1, h1, h2⟩ := step pre x post ρ S e h
    show wp (chk S s (match bd.go (enc x) ρ with
      | some ρ1 => (b ρ1 S).bind fun w S2 => match w with
        | .nx ρ2 => forGo s bd b (post.map enc) ρ2 S2
        | .ct ρ2 => forGo s bd b (post.map enc) ρ2 S2
        | .bk ρ2 => .ok (.nx ρ2) S2
        | .rt v => .ok (.rt v) S2
      | none => .no)) Q
    rw [chk_pos (hg _ _ _ h), h1]
    dsimp only
    rw [wp_bind]
    refine h2.mono fun w S2 q => ?_
    cases w with
    | nx ρ2 => exact forGo_wp I hg step done post (pre ++ [x]) ρ2 S2 (by rw [e]; simp) q
    | ct ρ2 => exact forGo_wp I hg step done post (pre ++ [x]) ρ2 S2 (by rw [e]; simp) q
    | bk ρ2 => rw [wp_ok]; exact q
    | rt v => rw [wp_ok]; exact q
/-- a loop over a row of data, by an invariant -/
theorem wp_for (I : List α → Envi → Sto → Prop) {src : SI} {S1 : Sto} (xs : List α) (enc : α → PyData) {Q : Fw → Sto → Prop} (hs : src ρ S = .ok s S1) (hi : s.items = xs.map enc) (hg : ∀ pre ρ S, I pre ρ S → GOk S s) (h0 : I [] ρ S1)
    (step : ∀ pre x post ρ S, xs = pre ++ x :: post → I pre ρ S → ∃ ρ1, bd.go (enc x) ρ = some ρ1 ∧ wp (b ρ1 S) fun w S2 => match w with
      | .nx ρ2 => I (pre ++ [x]) ρ2 S2
      | .ct ρ2 => I (pre ++ [x]) ρ2 S2
      | .bk ρ2 => Q (.nx ρ2) S2
      | .rt v => Q (.rt v) S2)
    (done : ∀ ρ S, I xs ρ S → Q (.nx ρ) S) : wp (sFo src bd b ρ S) Q := by
  show wp ((src ρ S).bind fun s S1 => forGo s bd b s.items ρ S1) Q
  rw [hs, bind_ok, hi]
  exact forGo_wp I hg step done xs [] ρ S1 rfl h0
theorem wp_while {c : SB} {b : Ss} {Q : Fw → Sto → Prop} (I : Nat → Envi → Sto → Prop)
    (step : ∀ m ρ S, I m ρ S → wp (c ρ S) fun k S1 => if k = true then wp (b ρ S1) (fun w S2 => match w with
      | .nx ρ2 => ∃ m', m' < m ∧ I m' ρ2 S2
      | .ct ρ2 => ∃ m', m' < m ∧ I m' ρ2 S2
      | .bk ρ2 => Q (.nx ρ2) S2
      | .rt v => Q (.rt v) S2) else Q (.nx ρ) S1) : ∀ (n m : Nat) (ρ : Envi) (S : Sto), m < n → I m ρ S → wp (sWhN c b n ρ S) Q
  | 0, m, ρ, S, h, _ => absurd h (Nat.not_lt_zero m)
  | n + 1, m, ρ, S, h, i => by
    show wp ((c ρ S).bind fun k S1 => if k = true then (b ρ S1).bind fun w S2 => (match w with
      | .nx ρ1 => sWhN c b n ρ1 S2
      | .ct ρ1 => sWhN c b n ρ1 S2
      | .bk ρ1 => .ok (.nx ρ1) S2
      | .rt v => .ok (.rt v) S2)
    else .ok (.nx ρ) S1) Q
    rw [wp_bind]
    refine (step m ρ S i).mono fun k S1 q => ?_
    cases k with
    | false => rw [if_neg Bool.false_ne_true] at q ⊢; rw [wp_ok]; exact q
    | true =>
      rw [if_pos rfl] at q ⊢
      rw [wp_bind]
      refine q.mono fun w S2 q => ?_
      cases w with
      | nx ρ2 => obtain ⟨m', h1, h2⟩ := q; exact wp_while I step n m' ρ2 S2 (by omega) h2
      | ct ρ2 => obtain ⟨m', h1, h2⟩ := q; exact wp_while I step n m' ρ2 S2 (by omega) h2
      | bk ρ2 => rw [wp_ok]; exact q
      | rt v => rw [wp_ok]; exact q
/-! ### comprehensions -/
theorem cGo_wp {t : SB} {e : Sx} (I : List α → List PyData → Sto → Prop) {xs : List α} {Q : List PyData → Sto → Prop} (hg : ∀ pre acc S, I pre acc S → GOk S s)
    (step : ∀ pre x post acc S, xs = pre ++ x :: post → I pre acc S → ∃ ρ1, bd.go (enc x) ρ = some ρ1 ∧ wp (t ρ1 S) fun k S1 => if k = true then wp (e ρ1 S1) (fun v S2 => ∃ y, v.th = .d y ∧ I (pre ++ [x]) (acc ++ [y]) S2) else I (pre ++ [x]) acc S1)
    (done : ∀ acc S, I xs acc S → Q acc S) : ∀ (post pre : List α) (acc : List PyData) (S : Sto), xs = pre ++ post → I pre acc S → wp (cGo s bd t e ρ (post.map enc) acc S) Q
  | [], pre, acc, S, eq, h => by
    rw [List.append_nil] at eq
    subst eq
    show wp (chk S s (.ok acc S)) Q
    rw [chk_pos (hg _ _ _ h), wp_ok]
    exact done _ _ h
  | x :: post, pre, acc, S, eq, h => by
    obtain ⟨ρ1, h1, h2⟩ := step pre x post acc S eq h
    show wp (chk S s (match bd.go (enc x) ρ with
      | some ρ1 => (t ρ1 S).bind fun k S1 => if k = true then (e ρ1 S1).bind fun v S2 => (match v.th with
          | .d y => cGo s bd t e ρ (post.map enc) (acc ++ [y]) S2
          | _ => .no)
        else cGo s bd t e ρ (post.map enc) acc S1
      | none => .no)) Q
    rw [chk_pos (hg _ _ _ h), h1]
    dsimp only
    rw [wp_bind]
    refine h2.mono fun k S1 q => ?_
    cases k with
    | false => exact cGo_wp I hg step done post (pre ++ [x]) acc S1 (by rw [eq]; simp) q
    | true =>
      rw [if_pos rfl] at q ⊢
      rw [wp_bind]
      refine q.mono fun v S2 ⟨y, hy, q⟩ => ?_
      rw [hy]
      exact cGo_wp I hg step done post (pre ++ [x]) (acc ++ [y]) S2 (by rw [eq]; simp) q
theorem wp_comp {src : SI} {t : SB} {e : Sx} {own : List Nat} {S1 : Sto} {Q : Val → Sto → Prop} (I : List α → List PyData → Sto → Prop) (xs : List α) (enc : α → PyData) (hs : src ρ S = .ok s S1) (hi : s.items = xs.map enc) (hl : xs.length ≤ sizeLine)
    (hg : ∀ pre acc S, I pre acc S → GOk S s) (h0 : I [] [] S1)
    (step : ∀ pre x post acc S, xs = pre ++ x :: post → I pre acc S → ∃ ρ1, bd.go (enc x) (wipeE ρ own) = some ρ1 ∧ wp (t ρ1 S) fun k S1 => if k = true then wp (e ρ1 S1) (fun v S2 => ∃ y, v.th = .d y ∧ I (pre ++ [x]) (acc ++ [y]) S2) else I (pre ++ [x]) acc S1)
    (done : ∀ acc S, I xs acc S → Q (.f (.lst acc)) S) : wp (evComp src bd t e own ρ S) Q := by
  show wp ((src ρ S).bind fun s S1 => if s.items.length ≤ sizeLine then (cGo s bd t e (wipeE ρ own) s.items [] S1).bind fun ds S2 => .ok (.f (.lst ds)) S2 else .no) Q
  rw [hs, bind_ok, hi, if_pos (by rw [List.length_map]; exact hl), wp_bind]
  exact cGo_wp I hg step (fun acc S q => by rw [wp_ok]; exact done acc S q) xs [] [] S1 rfl h0
theorem cGo_pure {t : SB} {e : Sx} (p : α → Bool) (F : α → PyData) (hg : GOk S s) : ∀ (xs : List α) (acc : List PyData)
    (h : ∀ x ∈ xs, ∃ ρ1, bd.go (enc x) ρ = some ρ1 ∧ t ρ1 S = .ok (p x) S ∧ (p x = true → ∃ v, e ρ1 S = .ok v S ∧ v.th = .d (F x))), cGo s bd t e ρ (xs.map enc) acc S = .ok (acc ++ (xs.filter p).map F) S
  | [], acc, h => by
    show chk S s (.ok acc S) = _
    rw [chk_pos hg]; simp
  | x :: xs, acc, h => by
    obtain ⟨ρ1, h1, h2, h3⟩ := h x (by simp)
    show chk S s (match bd.go (enc x) ρ with
      | some ρ1 => (t ρ1 S).bind fun k S1 => if k = true then (e ρ1 S1).bind fun v S2 => (match v.th with
          | .d y => cGo s bd t e ρ (xs.map enc) (acc ++ [y]) S2
          | _ => .no)
        else cGo s bd t e ρ (xs.map enc) acc S1
      | none => .no) = _
    rw [chk_pos hg, h1]
    dsimp only
    rw [h2, bind_ok]
    cases hp : p x with
    | false =>
      rw [if_neg Bool.false_ne_true, cGo_pure p F hg xs acc fun y hy => h y (List.mem_cons_of_mem _ hy)]
      simp [hp]
    | true =>
      obtain ⟨v, h4, h5⟩ := h3 hp
      rw [if_pos rfl, h4, bind_ok, h5]
      dsimp only
      rw [cGo_pure p F hg xs (acc ++ [F x]) fun y hy => h y (List.mem_cons_of_mem _ hy)]
      simp [hp]
theorem comp_pure {src : SI} {t : SB} {e : Sx} {own : List Nat} (xs : List α) (enc : α → PyData) (p : α → Bool) (F : α → PyData) (hs : src ρ S = .ok s S) (hi : s.items = xs.map enc) (hg : GOk S s) (hl : xs.length ≤ sizeLine)
    (h : ∀ x ∈ xs, ∃ ρ1, bd.go (enc x) (wipeE ρ own) = some ρ1 ∧ t ρ1 S = .ok (p x) S ∧ (p x = true → ∃ v, e ρ1 S = .ok v S ∧ v.th = .d (F x))) : evComp src bd t e own ρ S = .ok (.f (.lst ((xs.filter p).map F))) S := by
  show (src ρ S).bind (fun s S1 => if s.items.length ≤ sizeLine then (cGo s bd t e (wipeE ρ own) s.items [] S1).bind fun ds S2 => .ok (Val.f (.lst ds)) S2 else .no) = _
  rw [hs, bind_ok, hi, if_pos (by rw [List.length_map]; exact hl), cGo_pure p F hg xs [] h]
  simp
theorem comp_map {src : SI} {t : SB} {e : Sx} {own : List Nat} (xs : List α) (enc : α → PyData) (F : α → PyData) (hs : src ρ S = .ok s S) (hi : s.items = xs.map enc) (hg : GOk S s) (hl : xs.length ≤ sizeLine)
    (h : ∀ x ∈ xs, ∃ ρ1, bd.go (enc x) (wipeE ρ own) = some ρ1 ∧ t ρ1 S = .ok true S ∧ ∃ v, e ρ1 S = .ok v S ∧ v.th = .d (F x)) : evComp src bd t e own ρ S = .ok (.f (.lst (xs.map F))) S := by
  have z := comp_pure xs enc (fun _ => true) F hs hi hg hl fun x hx => by
    obtain ⟨ρ1, h1, h2, h3⟩ := h x hx
    exact ⟨ρ1, h1, h2, fun _ => h3⟩
  rw [z, List.filter_eq_self.mpr fun _ _ => rfl]
/-! the same, what follows a turn out of sight -/
theorem wp_forK (I : List α → Envi → Sto → Prop) {src : SI} {S1 : Sto} (xs : List α) (enc : α → PyData) {Q : Fw → Sto → Prop} (hs : src ρ S = .ok s S1) (hi : s.items = xs.map enc) (hg : ∀ pre ρ S, I pre ρ S → GOk S s) (h0 : I [] ρ S1)
    (step : ∀ pre x post ρ S, xs = pre ++ x :: post → I pre ρ S → ∃ ρ1, bd.go (enc x) ρ = some ρ1 ∧ ∀ K : Fw → Sto → Prop, (∀ ρ S, I (pre ++ [x]) ρ S → K (.nx ρ) S) → (∀ v S, Q (.rt v) S → K (.rt v) S) → wp (b ρ1 S) K)
    (done : ∀ ρ S, I xs ρ S → Q (.nx ρ) S) : wp (sFo src bd b ρ S) Q :=
  wp_for I xs enc hs hi hg h0 (fun pre x post ρ S e h => by
    obtain ⟨ρ1, h1, h2⟩ := step pre x post ρ S e h
    exact ⟨ρ1, h1, h2 _ (fun _ _ h => h) fun _ _ h => h⟩) done
theorem e_sFo {src : SI} : sFo src bd b ρ S = (src ρ S).bind fun s S1 => forGo s bd b s.items ρ S1 := (rfl)
theorem wp_goK (I : List α → Envi → Sto → Prop) {items : List PyData} (xs : List α) (enc : α → PyData) {Q : Fw → Sto → Prop} (hi : items = xs.map enc) (hg : ∀ pre ρ S, I pre ρ S → GOk S s) (h0 : I [] ρ S)
    (step : ∀ pre x post ρ S, xs = pre ++ x :: post → I pre ρ S → ∃ ρ1, bd.go (enc x) ρ = some ρ1 ∧ ∀ K : Fw → Sto → Prop, (∀ ρ S, I (pre ++ [x]) ρ S → K (.nx ρ) S) → (∀ v S, Q (.rt v) S → K (.rt v) S) → wp (b ρ1 S) K)
    (done : ∀ ρ S, I xs ρ S → Q (.nx ρ) S) : wp (forGo s bd b items ρ S) Q := by
  subst hi
  exact forGo_wp I hg (fun pre x post ρ S e h => by
    obtain ⟨ρ1, h1, h2⟩ := step pre x post ρ S e h
    exact ⟨ρ1, h1, h2 _ (fun _ _ h => h) fun _ _ h => h⟩) done xs [] ρ S rfl h0
theorem wp_forL (I : List α → Envi → Sto → Prop) {src : SI} {S1 : Sto} (xs : List α) (enc : α → PyData) {Q : Fw → Sto → Prop} (hs : src ρ S = .ok s S1) (hi : s.items = xs.map enc) (hg : ∀ pre ρ S, I pre ρ S → GOk S s) (h0 : I [] ρ S1)
    (step : ∀ pre x post ρ S, xs = pre ++ x :: post → I pre ρ S → ∃ ρ1, bd.go (enc x) ρ = some ρ1 ∧ ∀ K : Fw → Sto → Prop, (∀ ρ S, I (pre ++ [x]) ρ S → K (.nx ρ) S) → (∀ ρ S, I (pre ++ [x]) ρ S → K (.ct ρ) S) → (∀ ρ S, Q (.nx ρ) S → K (.bk ρ) S) → (∀ v S, Q (.rt v) S → K (.rt v) S) → wp (b ρ1 S) K)
    (done : ∀ ρ S, I xs ρ S → Q (.nx ρ) S) : wp (sFo src bd b ρ S) Q :=
  wp_for I xs enc hs hi hg h0 (fun pre x post ρ S e h => by
    obtain ⟨ρ1, h1, h2⟩ := step pre x post ρ S e h
    exact ⟨ρ1, h1, h2 _ (fun _ _ h => h) (fun _ _ h => h) (fun _ _ h => h) fun _ _ h => h⟩) done
theorem wp_whileK {c : SB} {b : Ss} {Q : Fw → Sto → Prop} (I : Nat → Envi → Sto → Prop)
    (step : ∀ m ρ S, I m ρ S → ∀ K : Bool → Sto → Prop, (∀ S1, (∀ K2 : Fw → Sto → Prop, (∀ m' ρ2 S2, m' < m → I m' ρ2 S2 → K2 (.nx ρ2) S2) → (∀ v S2, Q (.rt v) S2 → K2 (.rt v) S2) → wp (b ρ S1) K2) → K true S1) → (∀ S1, Q (.nx ρ) S1 → K false S1) → wp (c ρ S) K)
    (n m : Nat) (ρ : Envi) (S : Sto) (h : m < n) (i : I m ρ S) : wp (sWhN c b n ρ S) Q :=
  wp_while I (fun m ρ S h => step m ρ S h _ (fun S1 q => by
    rw [if_pos rfl]
    exact q _ (fun m' ρ2 S2 h1 h2 => ⟨m', h1, h2⟩) fun _ _ h => h) fun S1 q => by
    rw [if_neg Bool.false_ne_true]
    exact q) n m ρ S h i
theorem wp_compK {src : SI} {t : SB} {e : Sx} {own : List Nat} {S1 : Sto} {Q : Val → Sto → Prop} (I : List α → List PyData → Sto → Prop) (xs : List α) (enc : α → PyData) (hs : src ρ S = .ok s S1) (hi : s.items = xs.map enc) (hl : xs.length ≤ sizeLine)
    (hg : ∀ pre acc S, I pre acc S → GOk S s) (h0 : I [] [] S1)
    (step : ∀ pre x post acc S, xs = pre ++ x :: post → I pre acc S → ∃ ρ1, bd.go (enc x) (wipeE ρ own) = some ρ1 ∧ ∀ K : Bool → Sto → Prop,
      (∀ S1, (∀ K2 : Val → Sto → Prop, (∀ v S2 y, v.th = .d y → I (pre ++ [x]) (acc ++ [y]) S2 → K2 v S2) → wp (e ρ1 S1) K2) → K true S1) → (∀ S1, I (pre ++ [x]) acc S1 → K false S1) → wp (t ρ1 S) K)
    (done : ∀ acc S, I xs acc S → Q (.f (.lst acc)) S) : wp (evComp src bd t e own ρ S) Q :=
  wp_comp I xs enc hs hi hl hg h0 (fun pre x post acc S eq h => by
    obtain ⟨ρ1, h1, h2⟩ := step pre x post acc S eq h
    refine ⟨ρ1, h1, h2 _ (fun S1 q => ?_) fun S1 q => ?_⟩
    · rw [if_pos rfl]
      exact q _ fun v S2 y h3 h4 => ⟨y, h3, h4⟩
    · rw [if_neg Bool.false_ne_true]
      exact q) done
end
/-! ### one statement at a time: what follows is out of sight -/
section
variable {f g : Ss} {ρ : Envi} {S : Sto} {Q : Fw → Sto → Prop}
theorem wp_seq (h : ∀ K : Fw → Sto → Prop, (∀ ρ1 S1, wp (g ρ1 S1) Q → K (.nx ρ1) S1) → (∀ v S1, Q (.rt v) S1 → K (.rt v) S1) → wp (f ρ S) K) : wp (sSeq f g ρ S) Q := by
  rw [e_sSeq, wp_bind]
  refine h _ ?_ ?_
  · exact fun _ _ h => h
  · exact fun _ _ h => by rw [wp_ok]; exact h
theorem wp_seqN (h : ∀ K : Fw → Sto → Prop, (∀ ρ1 S1, wp (g ρ1 S1) Q → K (.nx ρ1) S1) → wp (f ρ S) K) : wp (sSeq f g ρ S) Q := by
  rw [e_sSeq, wp_bind]
  refine h _ ?_
  exact fun _ _ h => h
theorem wp_seqL (h : ∀ K : Fw → Sto → Prop, (∀ ρ1 S1, wp (g ρ1 S1) Q → K (.nx ρ1) S1) → (∀ v S1, Q (.rt v) S1 → K (.rt v) S1) → (∀ v S1, Q (.bk v) S1 → K (.bk v) S1) → (∀ v S1, Q (.ct v) S1 → K (.ct v) S1) → wp (f ρ S) K) : wp (sSeq f g ρ S) Q := by
  rw [e_sSeq, wp_bind]
  refine h _ ?_ ?_ ?_ ?_
  · exact fun _ _ h => h
  · exact fun _ _ h => by rw [wp_ok]; exact h
  · exact fun _ _ h => by rw [wp_ok]; exact h
  · exact fun _ _ h => by rw [wp_ok]; exact h
end
/-! ### defs -/
section
variable {np N : Nat} {body : Ss} {vs : List Val} {S : Sto}
theorem wp_fn {Q : Val → Sto → Prop} (hl : vs.length = np) (h : wp (body (vs.map some ++ List.replicate (N - np) none) S) fun w S1 => match w with
    | .nx _ => Q (.d .none) (S1.take S.length)
    | .rt v => wp (out S.length S1 v) Q
    | _ => False) : wp (mkFn np N body vs S) Q := by
  unfold mkFn
  rw [if_pos hl, wp_bind]
  refine h.mono fun w S1 q => ?_
  cases w with
  | nx ρ => rw [wp_ok]; exact q
  | rt v => exact q
  | bk ρ => exact q.elim
  | ct ρ => exact q.elim
theorem fn_eq {v : Val} {S' S1 : Sto} (hl : vs.length = np) (h : body (vs.map some ++ List.replicate (N - np) none) S = .ok (.rt v) S1) (ho : ∀ r : Res Val, out S.length S1 v = r → r = .ok v S') : mkFn np N body vs S = .ok v S' := by
  unfold mkFn
  rw [if_pos hl, h]
  exact ho _ rfl
@[simp] theorem out_d {n : Nat} {x : PyData} : out n S (.d x) = .ok (.d x) (S.take n) := (rfl)
@[simp] theorem out_f {n : Nat} {x : Cell} (h : x.lt n = true) : out n S (.f x) = .ok (.f x) (S.take n) := if_pos h
theorem wp_out_d {n : Nat} {x : PyData} {Q : Val → Sto → Prop} (h : Q (.d x) (S.take n)) : wp (out n S (.d x)) Q := by rw [out_d, wp_ok]; exact h
theorem wp_out_f {n : Nat} {x : Cell} {Q : Val → Sto → Prop} (h : Q (.f x) (S.take n)) (hl : x.lt n = true := by rfl) : wp (out n S (.f x)) Q := by rw [out_f hl, wp_ok]; exact h
theorem out_c {n j : Nat} {k : Cell} (h : ¬ j < n) (e : S[j]? = some k) (hl : k.lt n = true := by rfl) : out n S (.c j) = .ok (.f k) (S.take n) := by
  show (if j < n then _ else match S[j]? with | some k => _ | none => _) = _
  rw [if_neg h, e]
  exact if_pos hl
end
/-! ### the store: what stood before, and a def's own cells -/
section
variable {S L : Sto} {k : Cell} {i : Nat}
@[simp] theorem st_get : (S ++ L)[S.length + i]? = L[i]? := by rw [List.getElem?_append_right (Nat.le_add_right _ _), Nat.add_sub_cancel_left]
@[simp] theorem st_get0 : (S ++ k :: L)[S.length]? = some k := by simp
@[simp] theorem st_set : (S ++ L).set (S.length + i) k = S ++ L.set i k := by simp
@[simp] theorem st_set0 {k' : Cell} : (S ++ k' :: L).set S.length k = S ++ k :: L := by simp
@[simp] theorem st_take : (S ++ L).take S.length = S := by simp
end
end MV
set_option Elab.async false
set_option linter.all false
set_option maxRecDepth 100000
set_option maxHeartbeats 1000000
/-! Data of one form: what the operators say of them. -/
namespace MV
open PySem PySem.Spec PyProof.Rows L2
/-! ### forms -/
structure Enc {α : Type} (enc : α → PyData) (n : Nat) : Prop where
  eqv : ∀ a b, PyData.eqv (enc a) (enc b) = true ↔ a = b
  lay : ∀ a, (enc a).canLay0 = true
  dep : ∀ a, (enc a).depth ≤ n
section
variable {α β : Type} {enc : α → PyData} {en2 : β → PyData} {n m : Nat}
theorem eqv_map (h : ∀ a b, PyData.eqv (enc a) (enc b) = true ↔ a = b) : ∀ xs ys : List α, PyData.eqvAll (xs.map enc) (ys.map enc) = true ↔ xs = ys
  | [], [] => by simp [PyData.eqvAll]
  | [], _ :: _ => by simp [PyData.eqvAll]
  | _ :: _, [] => by simp [PyData.eqvAll]
  | x :: xs, y :: ys => by
    show PyData.eqvAll (enc x :: xs.map enc) (enc y :: ys.map enc) = true ↔ _
    rw [PyData.eqvAll, Bool.and_eq_true, h, eqv_map h xs ys, List.cons.injEq]
theorem lay_map (h : ∀ a, (enc a).canLay0 = true) : ∀ xs : List α, PyData.canLayAll0 (xs.map enc) = true
  | [] => by simp [PyData.canLayAll0]
  | x :: xs => by
    show PyData.canLayAll0 (enc x :: xs.map enc) = true
    rw [PyData.canLayAll0, h, lay_map h xs]; rfl
theorem dep_map (h : ∀ a, (enc a).depth ≤ n) : ∀ xs : List α, PyData.depthAll (xs.map enc) ≤ n
  | [] => by simp [PyData.depthAll]
  | x :: xs => by
    show PyData.depthAll (enc x :: xs.map enc) ≤ n
    rw [PyData.depthAll]
    exact Nat.max_le.mpr ⟨h x, dep_map h xs⟩
theorem encInt : Enc PyData.int 0 := ⟨fun a b => by simp [PyData.eqv], fun a => by simp [PyData.canLay0], fun a => by simp [PyData.depth]⟩
theorem encBool : Enc PyData.bool 0 := ⟨fun a b => by simp [PyData.eqv], fun a => by simp [PyData.canLay0], fun a => by simp [PyData.depth]⟩
theorem Enc.tup (h : Enc enc n) : Enc (fun xs : List α => PyData.tuple (xs.map enc)) (n + 1) := ⟨fun a b => by rw [PyData.eqv]; exact eqv_map h.eqv a b, fun a => by rw [PyData.canLay0]; exact lay_map h.lay a, fun a => by rw [PyData.depth]; have := dep_map h.dep a; omega⟩
theorem Enc.lst (h : Enc enc n) : Enc (fun xs : List α => PyData.list (xs.map enc)) (n + 1) := ⟨fun a b => by rw [PyData.eqv]; exact eqv_map h.eqv a b, fun a => by rw [PyData.canLay0]; exact lay_map h.lay a, fun a => by rw [PyData.depth]; have := dep_map h.dep a; omega⟩
theorem Enc.pair (h : Enc enc n) (k : Enc en2 m) : Enc (fun p : α × β => PyData.tuple [enc p.1, en2 p.2]) (max n m + 1) := ⟨fun a b => by
    rw [PyData.eqv, PyData.eqvAll, PyData.eqvAll, PyData.eqvAll, Bool.and_true, Bool.and_eq_true, h.eqv, k.eqv, Prod.ext_iff], fun a => by
    rw [PyData.canLay0, PyData.canLayAll0, PyData.canLayAll0, PyData.canLayAll0, h.lay, k.lay]; rfl, fun a => by
    rw [PyData.depth, PyData.depthAll, PyData.depthAll, PyData.depthAll]
    have := h.dep a.1
    have := k.dep a.2
    omega⟩
theorem Enc.comp {γ : Type} {f : γ → α} (h : Enc enc n) (hf : ∀ a b, f a = f b → a = b) : Enc (fun c => enc (f c)) n := ⟨fun a b => by rw [h.eqv]; exact ⟨hf a b, fun e => by rw [e]⟩, fun a => h.lay _, fun a => h.dep _⟩
theorem Enc.shaped (h : Enc enc n) (hn : n ≤ 64) (a : α) : SeqAt.shaped (enc a) = true := by
  unfold SeqAt.shaped
  rw [h.lay, Bool.true_and]
  exact decide_eq_true (Nat.le_trans (h.dep a) hn)
theorem Enc.inj (h : Enc enc n) {a b : α} (e : enc a = enc b) : a = b := (h.eqv a b).mp (by rw [e]; exact (h.eqv b b).mpr rfl)
theorem Enc.eqvD (h : Enc enc n) (a b : α) [Decidable (a = b)] : PyData.eqv (enc a) (enc b) = decide (a = b) := by
  rw [Bool.eq_iff_iff, h.eqv, decide_eq_true_iff]
theorem Enc.any (h : Enc enc n) (a : α) (xs : List α) [Decidable (a ∈ xs)] : ((xs.map enc).any fun z => PyData.eqv z (enc a)) = decide (a ∈ xs) := by
  rw [Bool.eq_iff_iff, List.any_eq_true, decide_eq_true_iff]
  constructor
  · rintro ⟨z, hz, e⟩
    obtain ⟨b, hb, rfl⟩ := List.mem_map.mp hz
    rw [(h.eqv b a).mp e] at hb; exact hb
  · exact fun m => ⟨enc a, List.mem_map_of_mem m, (h.eqv a a).mpr rfl⟩
variable {S : Sto}
theorem Enc.eq (h : Enc enc n) (a b : α) [Decidable (a = b)] (hn : n ≤ 64 := by decide) : gEq (.d (enc a)) (.d (enc b)) S = .ok (.d (.bool (decide (a = b)))) S := by
  rw [o_eq (x := enc a) (y := enc b) rfl rfl (h.shaped hn a) (h.shaped hn b), h.eqvD]
theorem Enc.ne (h : Enc enc n) (a b : α) [Decidable (a = b)] (hn : n ≤ 64 := by decide) : gNe (.d (enc a)) (.d (enc b)) S = .ok (.d (.bool (!decide (a = b)))) S := by
  rw [o_ne (x := enc a) (y := enc b) rfl rfl (h.shaped hn a) (h.shaped hn b), h.eqvD]
theorem Enc.inT (h : Enc enc n) (a : α) (xs : List α) [Decidable (a ∈ xs)] (hn : n + 1 ≤ 64 := by decide) : gIn (.d (enc a)) (.d (.tuple (xs.map enc))) S = .ok (.d (.bool (decide (a ∈ xs)))) S := by
  unfold gIn
  rw [o_inT (fun i => .inr trivial) (h.shaped (by omega) a) (h.lst.shaped hn xs), h.any]
theorem Enc.notInT (h : Enc enc n) (a : α) (xs : List α) [Decidable (a ∈ xs)] (hn : n + 1 ≤ 64 := by decide) : gNotIn (.d (enc a)) (.d (.tuple (xs.map enc))) S = .ok (.d (.bool (!decide (a ∈ xs)))) S := by
  unfold gNotIn
  rw [o_inT (fun i => .inr trivial) (h.shaped (by omega) a) (h.lst.shaped hn xs), h.any]
theorem Enc.inC (h : Enc enc n) (a : α) (xs : List α) [Decidable (a ∈ xs)] {i : Nat} (e : S[i]? = some (.lst (xs.map enc))) (hn : n + 1 ≤ 64 := by decide) : gIn (.d (enc a)) (.c i) S = .ok (.d (.bool (decide (a ∈ xs)))) S := by
  unfold gIn
  rw [o_inL rfl e (h.shaped (by omega) a) (h.lst.shaped hn xs), h.any]
theorem Enc.notInC (h : Enc enc n) (a : α) (xs : List α) [Decidable (a ∈ xs)] {i : Nat} (e : S[i]? = some (.lst (xs.map enc))) (hn : n + 1 ≤ 64 := by decide) : gNotIn (.d (enc a)) (.c i) S = .ok (.d (.bool (!decide (a ∈ xs)))) S := by
  unfold gNotIn
  rw [o_inL rfl e (h.shaped (by omega) a) (h.lst.shaped hn xs), h.any]
end
/-! ### webs -/
abbrev dI (ns : List Int) : List PyData := ns.map PyData.int
def pP (p : Int × Int) : PyData := .tuple [.int p.1, .int p.2]
abbrev dP (ps : List (Int × Int)) : List PyData := ps.map pP
abbrev Web := List Int × List (Int × Int)
def pT (ns : List Int) : PyData := .tuple (ns.map .int)
def pTs (ps : List (Int × Int)) : PyData := .tuple (ps.map pP)
def pW (W : Web) : PyData := .tuple [pT W.1, pTs W.2]
theorem encP : Enc pP 1 := encInt.pair encInt
theorem encT : Enc pT 1 := encInt.tup
theorem encTs : Enc pTs 2 := encP.tup
theorem encW : Enc pW 3 := encT.pair encTs
/-! ### built-ins -/
section
variable {S : Sto} {i j : Int} {ds es : List PyData} {n : Nat} {ns : List Int} {bs : List Bool} {b : Bool}
@[simp] theorem g_lenT : g1 fLen [.d (.tuple ds)] S = .ok (.d (.int ds.length)) S := (rfl)
@[simp] theorem g_lenL : g1 fLen [.d (.list ds)] S = .ok (.d (.int ds.length)) S := (rfl)
@[simp] theorem g_lenZ : g1 fLen [.z ds] S = .ok (.d (.int ds.length)) S := (rfl)
theorem g1_of {f : Sto → Val → Option PyData} {v : Val} {d : PyData} (h : f S v = some d) : g1 f [v] S = .ok (.d d) S := by
  unfold g1
  dsimp only
  rw [h]
theorem g_lenC (h : S[n]? = some (.lst ds)) : g1 fLen [.c n] S = .ok (.d (.int ds.length)) S := g1_of (by
  unfold fLen
  dsimp only
  rw [asM_c, seq_c, h])
theorem g_lenD {ps : List (PyData × PyData)} (h : S[n]? = some (.dic ps)) : g1 fLen [.c n] S = .ok (.d (.int ps.length)) S := g1_of (by
  unfold fLen
  dsimp only
  rw [asM_c, h])
@[simp] theorem g_tupT : g1 fTuple [.d (.tuple ds)] S = .ok (.d (.tuple ds)) S := (rfl)
@[simp] theorem g_tupL : g1 fTuple [.d (.list ds)] S = .ok (.d (.tuple ds)) S := (rfl)
@[simp] theorem g_tupZ : g1 fTuple [.z ds] S = .ok (.d (.tuple ds)) S := (rfl)
theorem g_tupC (h : S[n]? = some (.lst ds)) : g1 fTuple [.c n] S = .ok (.d (.tuple ds)) S := g1_of (by
  unfold fTuple
  rw [seq_c, h])
@[simp] theorem g_listT : gList [.d (.tuple ds)] S = .ok (.f (.lst ds)) S := (rfl)
@[simp] theorem g_listL : gList [.d (.list ds)] S = .ok (.f (.lst ds)) S := (rfl)
@[simp] theorem g_intB : g1 fInt [.d (.bool b)] S = .ok (.d (.int (if b = true then 1 else 0))) S := (rfl)
@[simp] theorem g_intI : g1 fInt [.d (.int i)] S = .ok (.d (.int i)) S := (rfl)
@[simp] theorem g_abs : g1 fAbs [.d (.int i)] S = .ok (.d (.int (if i < 0 then -i else i))) S := (rfl)
@[simp] theorem g_min2 : gMin [.d (.int i), .d (.int j)] S = .ok (.d (.int (if j < i then j else i))) S := (rfl)
@[simp] theorem g_max2 : gMax [.d (.int i), .d (.int j)] S = .ok (.d (.int (if j > i then j else i))) S := (rfl)
theorem g_all (h : ds = bs.map .bool) : g1 fAll [.d (.list ds)] S = .ok (.d (.bool (bs.all id))) S := g1_of (by
  subst h
  show (bolsOf (bs.map .bool)).map _ = _
  rw [bolsOf_map]; rfl)
theorem g_any (h : ds = bs.map .bool) : g1 fAny [.d (.list ds)] S = .ok (.d (.bool (bs.any id))) S := g1_of (by
  subst h
  show (bolsOf (bs.map .bool)).map _ = _
  rw [bolsOf_map]; rfl)
theorem o_pow (h : 0 ≤ j ∧ (Builtin.Int.intBits i : Int) * j ≤ 2 ^ 27) : gPow (.d (.int i)) (.d (.int j)) S = .ok (.d (.int (i ^ j.toNat))) S := by
  show (if decide _ = true then _ else _) = _
  rw [decide_eq_true h, if_pos rfl]
@[simp] theorem e_range1 (h1 : -4611686018427387904 ≤ j) (h2 : j < 4611686018427387904) : gRange1 [.d (.int j)] = some ⟨iota 0 j.toNat, []⟩ := if_pos ⟨by omega, by omega⟩
@[simp] theorem e_range2 (h1 : -4611686018427387904 ≤ j) (h2 : j < 4611686018427387904) (h3 : -4611686018427387904 ≤ i) (h4 : i < 4611686018427387904) : gRange2 [.d (.int i), .d (.int j)] = some ⟨iota i (j - i).toNat, []⟩ := if_pos ⟨by omega, by omega, by omega, by omega⟩
theorem iota_map (lo : Int) (n : Nat) : iota lo n = (List.range n).map fun (i : Nat) => PyData.int (lo + i) := rfl
/-! sorted -/
def isort (ns : List Int) : List Int := ns.mergeSort fun a b => decide (a ≤ b)
def pleB (p q : Int × Int) : Bool := decide (p.1 < q.1 ∨ (p.1 = q.1 ∧ p.2 ≤ q.2))
def psort (ps : List (Int × Int)) : List (Int × Int) := ps.mergeSort pleB
theorem sortD_map {α : Type} {enc : α → PyData} {le : α → α → Bool} (h : ∀ a b, PySem.W.dataLe false id (enc a) (enc b) = le a b) (xs : List α) : sortD (xs.map enc) = (xs.mergeSort le).map enc := by
  unfold sortD
  rw [List.map_mergeSort]
  exact fun a _ b _ => (h a b).symm
theorem sorted_of {α : Type} {enc : α → PyData} {le : α → α → Bool} {k : Nat} (E : Enc enc k) (hk : k ≤ 64) (h : ∀ a b, PySem.W.dataLe false id (enc a) (enc b) = le a b) (xs : List α) (al : ∀ a b, PySem.W.alike (enc a) (enc b) = true) (so : PySem.W.Sortable (xs.map enc)) (hl : xs.length ≤ sizeLine)
    {v : Val} {t : Bool} {g : List (Nat × List PyData)} (hv : seqOf S v = some (t, xs.map enc, g)) : gSorted [v] S = .ok (.f (.lst ((xs.mergeSort le).map enc))) S := by
  unfold gSorted
  dsimp only
  rw [hv]
  dsimp only
  rw [if_pos, sortD_map h]
  refine ⟨.of al, so, by rw [List.length_map]; exact hl, fun d hd => ?_⟩
  obtain ⟨a, _, rfl⟩ := List.mem_map.mp hd
  exact E.shaped hk a
theorem sorted_int {v : Val} {t : Bool} {g : List (Nat × List PyData)} (hv : seqOf S v = some (t, dI ns, g)) (hl : ns.length ≤ sizeLine) : gSorted [v] S = .ok (.f (.lst (dI (isort ns)))) S :=
  sorted_of encInt (by decide) (le := fun a b => decide (a ≤ b)) (fun a b => congrFun (congrFun (PySem.W.dataLe_int (β := Int) id) a) b) ns (fun a b => by simp [PySem.W.alike]) (.others fun b => ⟨by simp, by simp⟩) hl hv
theorem sorted_pair {ps : List (Int × Int)} {v : Val} {t : Bool} {g : List (Nat × List PyData)} (hv : seqOf S v = some (t, dP ps, g)) (hl : ps.length ≤ sizeLine) : gSorted [v] S = .ok (.f (.lst (dP (psort ps)))) S :=
  sorted_of encP (by decide) (le := pleB) (fun a b => congrFun (congrFun (PySem.W.dataLe_ii (β := Int × Int) (·.1) (·.2)) a) b) ps (fun a b => by simp [pP, PySem.W.alike, PySem.W.alikeAll]) (.tuples fun b => ⟨_, _, rfl⟩) hl hv
theorem isort_perm (ns : List Int) : (isort ns).Perm ns := List.mergeSort_perm _ _
theorem psort_perm (ns : List (Int × Int)) : (psort ns).Perm ns := List.mergeSort_perm _ _
theorem isort_le (ns : List Int) : (isort ns).Pairwise (· ≤ ·) := by
  have h := List.pairwise_mergeSort (le := fun (a b : Int) => decide (a ≤ b)) (fun a b c h1 h2 => by simp at h1 h2 ⊢; omega) (fun a b => by simp; omega) ns
  exact h.imp fun h => by simpa using h
theorem ple_trans (a b c : Int × Int) (h1 : pleB a b = true) (h2 : pleB b c = true) : pleB a c = true := by
  unfold pleB at *
  simp only [decide_eq_true_eq] at *
  omega
theorem ple_total (a b : Int × Int) : (pleB a b || pleB b a) = true := by
  unfold pleB
  simp only [Bool.or_eq_true, decide_eq_true_eq]
  omega
theorem psort_le (ns : List (Int × Int)) : (psort ns).Pairwise (fun a b => pleB a b = true) := List.pairwise_mergeSort ple_trans ple_total ns
@[simp] theorem mem_isort {a : Int} : a ∈ isort ns ↔ a ∈ ns := (isort_perm ns).mem_iff
@[simp] theorem mem_psort {a : Int × Int} {ps : List (Int × Int)} : a ∈ psort ps ↔ a ∈ ps := (psort_perm ps).mem_iff
@[simp] theorem isort_length : (isort ns).length = ns.length := (isort_perm ns).length_eq
@[simp] theorem psort_length {ps : List (Int × Int)} : (psort ps).length = ps.length := (psort_perm ps).length_eq
/-! rising -/
abbrev Rise (ns : List Int) : Prop := ns.Pairwise (· < ·)
def pLt (p q : Int × Int) : Prop := p.1 < q.1 ∨ (p.1 = q.1 ∧ p.2 < q.2)
abbrev RiseP (ps : List (Int × Int)) : Prop := ps.Pairwise pLt
theorem rise_ext {xs ys : List Int} (hx : Rise xs) (hy : Rise ys) (h : ∀ a, a ∈ xs ↔ a ∈ ys) : xs = ys := by
  refine List.Perm.eq_of_pairwise (le := (· < ·)) (fun a b _ _ h1 h2 => by omega) hx hy ?_
  exact (List.perm_ext_iff_of_nodup (hx.imp fun h => by omega) (hy.imp fun h => by omega)).mpr h
theorem risep_ext {xs ys : List (Int × Int)} (hx : RiseP xs) (hy : RiseP ys) (h : ∀ a, a ∈ xs ↔ a ∈ ys) : xs = ys := by
  refine List.Perm.eq_of_pairwise (le := pLt) (fun a b _ _ h1 h2 => by unfold pLt at h1 h2; omega) hx hy ?_
  exact (List.perm_ext_iff_of_nodup (hx.imp fun h e => by subst e; unfold pLt at h; omega) (hy.imp fun h e => by subst e; unfold pLt at h; omega)).mpr h
theorem isort_rise (h : ns.Nodup) : Rise (isort ns) := by
  have h1 := isort_le ns
  have h2 : (isort ns).Nodup := (isort_perm ns).nodup_iff.mpr h
  exact (h1.and h2).imp fun ⟨h, h'⟩ => by omega
theorem psort_rise {ps : List (Int × Int)} (h : ps.Nodup) : RiseP (psort ps) := by
  have h1 := psort_le ps
  have h2 : (psort ps).Nodup := (psort_perm ps).nodup_iff.mpr h
  refine (h1.and h2).imp fun {a b} ⟨h, h'⟩ => ?_
  unfold pleB at h
  unfold pLt
  simp only [decide_eq_true_eq] at h
  rcases h with h | h
  · exact .inl h
  · refine .inr ⟨h.1, ?_⟩
    have : a.2 ≠ b.2 := fun e => h' (Prod.ext h.1 e)
    omega
theorem Rise.nodup (h : Rise ns) : ns.Nodup := h.imp fun h => by omega
theorem isort_of_rise (h : Rise ns) : isort ns = ns := rise_ext (isort_rise h.nodup) h fun a => mem_isort
theorem RiseP.nodup {ps : List (Int × Int)} (h : RiseP ps) : ps.Nodup := h.imp fun h e => by subst e; unfold pLt at h; omega
theorem psort_of_rise {ps : List (Int × Int)} (h : RiseP ps) : psort ps = ps := risep_ext (psort_rise h.nodup) h fun a => mem_psort
end
/-! ### what a web is -/
structure IsWeb (W : Web) : Prop where
  rp : Rise W.1
  rt : RiseP W.2
  lo : ∀ a ∈ W.1, 0 ≤ a ∧ a ≤ 99
  lt : ∀ t ∈ W.2, t.1 < t.2 ∧ t.1 ∈ W.1 ∧ t.2 ∈ W.1
/-! ### stores into cells, cuts -/
section
variable {S : Sto} {n : Nat} {ds : List PyData}
theorem put_c {k : Int} {j : Nat} {y : PyData} (h : S[n]? = some (.lst ds)) (hk : ixN ds.length k = some j) : gPut (.c n) (.d (.int k)) (.d y) S = some (S.set n (.lst (ds.set j y))) := by
  unfold gPut
  dsimp only
  rw [h]
  dsimp only
  rw [hk]
theorem put_dic {ps : List (PyData × PyData)} {z y : PyData} {k : Key} (h : S[n]? = some (.dic ps)) (hz : kOf z = some k) (hl : ps.length < sizeLine) : gPut (.c n) (.d z) (.d y) S = some (S.set n (.dic (putD ps k y))) := by
  unfold gPut
  dsimp only
  rw [h]
  dsimp only
  rw [hz]
  dsimp only
  rw [if_pos hl]
theorem app_c {y : PyData} (h : S[n]? = some (.lst ds)) (hl : ds.length < sizeLine) : gAppend (.c n) [.d y] S = .ok (.d .none) (S.set n (.lst (ds ++ [y]))) := by
  unfold gAppend cellL
  dsimp only
  rw [h]
  dsimp only
  rw [if_pos hl]
theorem ext_c {w : Val} {es : List PyData} (h : S[n]? = some (.lst ds)) (hw : asL S w = some es) (hl : ds.length + es.length ≤ sizeLine) : gExtend (.c n) [w] S = .ok (.d .none) (S.set n (.lst (ds ++ es))) := by
  unfold gExtend cellL
  dsimp only
  rw [h]
  dsimp only
  rw [hw]
  dsimp only
  rw [if_pos hl]
theorem ty_list (h : S[n]? = some (.lst ds)) : tyB "list" S (.c n) = true := by
  unfold tyB
  rw [asL_c, h]
  rfl
theorem ty_dict {ps : List (PyData × PyData)} (h : S[n]? = some (.dic ps)) : tyB "dict" S (.c n) = true := by
  unfold tyB
  rw [asM_c, h]
  simp
theorem cut_to {k : Int} (h : 0 ≤ k) : cutD ds none (some k) = ds.take k.toNat := by
  unfold cutD
  rw [HT.sIx_none]
  show (ds.drop 0).take ((if k < 0 then _ else min k.toNat ds.length) - 0) = _
  rw [if_neg (by omega), List.drop_zero, Nat.sub_zero]
  rcases Nat.le_total k.toNat ds.length with q | q
  · rw [Nat.min_eq_left q]
  · rw [Nat.min_eq_right q, List.take_length, List.take_of_length_le q]
theorem cut_from {k : Int} (h : 0 ≤ k) : cutD ds (some k) none = ds.drop k.toNat := by
  unfold cutD
  rw [HT.sIx_none]
  show (ds.drop (if k < 0 then _ else min k.toNat ds.length)).take (ds.length - (if k < 0 then _ else min k.toNat ds.length)) = _
  rw [if_neg (by omega)]
  rcases Nat.le_total k.toNat ds.length with q | q
  · rw [Nat.min_eq_left q, List.take_of_length_le (by simp)]
  · rw [Nat.min_eq_right q, List.drop_length, List.drop_of_length_le q]; simp
theorem at_nat {α : Type} {xs : List α} {i : Int} {x : α} (h : 0 ≤ i) (e : xs[i.toNat]? = some x) : atI xs i = some x := by
  have hl := (List.getElem?_eq_some_iff.mp e).1
  unfold atI ixN
  rw [if_pos h, if_pos (by omega)]
  exact e
theorem st_upd {k k' : Cell} (h : S[n]? = some k) : (S.set n k')[n]? = some k' := by
  rw [List.getElem?_set_self (List.getElem?_eq_some_iff.mp h).1]
theorem st_self {k : Cell} (h : S[n]? = some k) : S.set n k = S := by
  obtain ⟨h1, h2⟩ := List.getElem?_eq_some_iff.mp h
  rw [← h2, List.set_getElem_self]
theorem st_lt {k : Cell} (h : S[n]? = some k) : n < S.length := (List.getElem?_eq_some_iff.mp h).1
end
/-! a cell of three -/
section
variable {S : Sto} {n : Nat} {x y z w : PyData}
@[simp] theorem at_0 {r : List PyData} : atI (x :: r) 0 = some x := by
  unfold atI ixN
  rw [if_pos (by decide), if_pos (by simp only [List.length_cons]; omega)]; rfl
@[simp] theorem at_1 {r : List PyData} : atI (x :: y :: r) 1 = some y := by
  unfold atI ixN
  rw [if_pos (by decide), if_pos (by simp only [List.length_cons]; omega)]; rfl
@[simp] theorem at_2 {r : List PyData} : atI (x :: y :: z :: r) 2 = some z := by
  unfold atI ixN
  rw [if_pos (by decide), if_pos (by simp only [List.length_cons]; omega)]; rfl
theorem put3_0 (h : S[n]? = some (.lst [x, y, z])) : gPut (.c n) (.d (.int 0)) (.d w) S = some (S.set n (.lst [w, y, z])) := put_c (j := 0) h rfl
theorem put3_1 (h : S[n]? = some (.lst [x, y, z])) : gPut (.c n) (.d (.int 1)) (.d w) S = some (S.set n (.lst [x, w, z])) := put_c (j := 1) h rfl
theorem put3_2 (h : S[n]? = some (.lst [x, y, z])) : gPut (.c n) (.d (.int 2)) (.d w) S = some (S.set n (.lst [x, y, w])) := put_c (j := 2) h rfl
theorem log_lt {m : Int} (hm : 0 < m) (hm2 : m < 2 ^ 60) : m.natAbs.log2 < 9000 := by
  have h3 : m.natAbs.log2 < 60 := (Nat.log2_lt (by omega)).mpr (by omega)
  omega
theorem mod_in (x m : Int) (h : 0 < m) : 0 ≤ x % m ∧ x % m < m := ⟨Int.emod_nonneg _ (by omega), Int.emod_lt_of_pos _ h⟩
end
/-! a list that is written, at an open place; a cell among a def's own -/
theorem at_ex {xs : List Int} {r : Int} (h0 : 0 ≤ r) (h1 : r < xs.length) : ∃ y ∈ xs, atI (dI xs) r = some (.int y) := by
  have h : r.toNat < xs.length := by omega
  exact ⟨xs[r.toNat], List.getElem_mem h, at_nat h0 (by rw [List.getElem?_map, List.getElem?_eq_getElem h]; rfl)⟩
section
variable {S L : Sto} {n : Nat} {x : Cell}
@[simp] theorem st_take2 : ((S.set n x) ++ L).take S.length = S.set n x := List.take_left' (by simp)
@[simp] theorem st_take3 : (S.set n x).take S.length = S.set n x := List.take_of_length_le (by simp)
theorem st_own (h : n < S.length) : ((S.set n x) ++ L)[n]? = some x := by
  rw [List.getElem?_append_left (by simpa using h), List.getElem?_set_self h]
theorem st_loc {k : Cell} : ((S.set n x) ++ k :: L)[S.length]? = some k := by
  rw [List.getElem?_append_right (by simp)]; simp
theorem st_loc1 {k k1 : Cell} : ((S.set n x) ++ k1 :: k :: L)[S.length + 1]? = some k := by
  rw [List.getElem?_append_right (by simp)]; simp
theorem st_set_own {y : Cell} (h : n < S.length) : ((S.set n x) ++ L).set n y = (S.set n y) ++ L := by
  rw [List.set_append_left _ _ (by simpa using h), List.set_set]
theorem st_set_loc {k y : Cell} : ((S.set n x) ++ k :: L).set S.length y = (S.set n x) ++ y :: L := by
  rw [List.set_append_right _ _ (by simp)]; simp
theorem st_set_loc1 {k y k1 : Cell} : ((S.set n x) ++ k1 :: k :: L).set (S.length + 1) y = (S.set n x) ++ k1 :: y :: L := by
  rw [List.set_append_right _ _ (by simp)]; simp
end
/-! webs, rows of numbers, of pairs: read -/
section
variable {S : Sto} {W : Web} {ns : List Int} {ps : List (Int × Int)} {p : Int × Int} {ρ : Envi} {bs : List Bnd}
@[simp] theorem ix_W0 : gIx (.d (pW W)) (.d (.int 0)) S = .ok (.d (pT W.1)) S := (rfl)
@[simp] theorem ix_W1 : gIx (.d (pW W)) (.d (.int 1)) S = .ok (.d (pTs W.2)) S := (rfl)
@[simp] theorem ix_P0 : gIx (.d (pP p)) (.d (.int 0)) S = .ok (.d (.int p.1)) S := (rfl)
@[simp] theorem ix_P1 : gIx (.d (pP p)) (.d (.int 1)) S = .ok (.d (.int p.2)) S := (rfl)
@[simp] theorem seq_T : seqOf S (.d (pT ns)) = some (true, dI ns, []) := (rfl)
@[simp] theorem seq_Ts : seqOf S (.d (pTs ps)) = some (true, dP ps, []) := (rfl)
@[simp] theorem seq_W : seqOf S (.d (pW W)) = some (true, [pT W.1, pTs W.2], []) := (rfl)
@[simp] theorem seq_P : seqOf S (.d (pP p)) = some (true, [.int p.1, .int p.2], []) := (rfl)
@[simp] theorem len_T : g1 fLen [.d (pT ns)] S = .ok (.d (.int ns.length)) S := by show g1 fLen [.d (.tuple (dI ns))] S = _; simp
@[simp] theorem len_Ts : g1 fLen [.d (pTs ps)] S = .ok (.d (.int ps.length)) S := by show g1 fLen [.d (.tuple (dP ps))] S = _; simp
@[simp] theorem len_P : g1 fLen [.d (pP p)] S = .ok (.d (.int 2)) S := (rfl)
@[simp] theorem len_W : g1 fLen [.d (pW W)] S = .ok (.d (.int 2)) S := (rfl)
@[simp] theorem list_T : gList [.d (pT ns)] S = .ok (.f (.lst (dI ns))) S := (rfl)
@[simp] theorem tup_T : g1 fTuple [.d (pT ns)] S = .ok (.d (pT ns)) S := (rfl)
@[simp] theorem tup_I : g1 fTuple [.d (.list (dI ns))] S = .ok (.d (pT ns)) S := (rfl)
@[simp] theorem tup_Ps : g1 fTuple [.d (.list (dP ps))] S = .ok (.d (pTs ps)) S := (rfl)
theorem fold_T : PyData.tuple (dI ns) = pT ns := rfl
theorem fold_Ts : PyData.tuple (dP ps) = pTs ps := rfl
theorem fold_W {ns : List Int} : PyData.tuple [pT ns, pTs ps] = pW (ns, ps) := rfl
theorem fold_P {a b : Int} : PyData.tuple [.int a, .int b] = pP (a, b) := rfl
@[simp] theorem go_P : (bTup bs).go (pP p) ρ = goL bs [.int p.1, .int p.2] ρ := (rfl)
@[simp] theorem go_W : (bTup bs).go (pW W) ρ = goL bs [pT W.1, pTs W.2] ρ := (rfl)
end
/-! ### texts of things -/
theorem repr_of {S : Sto} {v : Val} {d : PyData} (h : asD S v = some d) (c : d.canLay0 = true ∧ d.showable = true ∧ d.shown.length ≤ sizeLine ∧ d.depth ≤ 64) : gRepr [v] S = .ok (.d (.str d.shown)) S := by
  unfold gRepr
  dsimp only
  rw [h]
  dsimp only
  rw [if_pos c]
/-- data whose text is short: whole numbers near 0, tuples of these -/
def Txt (d : PyData) (n : Nat) : Prop := d.showable = true ∧ d.leavesShort 13 = true ∧ d.bulk ≤ n
theorem txt_int {i : Int} (h : -1000 ≤ i ∧ i ≤ 1000) : Txt (.int i) 0 := by
  have key : ∀ k : Fin 2001, decide (((PyData.int ((k.val : Int) - 1000)).shown).length ≤ 13) = true := by decide +kernel
  have e := key ⟨(i + 1000).toNat, by omega⟩
  have e2 : (((i + 1000).toNat : Nat) : Int) - 1000 = i := by omega
  dsimp only at e
  rw [e2] at e
  refine ⟨?_, ?_, by simp [PyData.bulk]⟩
  · rw [PyData.showable]
    have h3 : i.natAbs.log2 < 1920 := by
      rcases Nat.eq_zero_or_pos i.natAbs with z | z
      · rw [z]; decide
      · exact (Nat.log2_lt (by omega)).mpr (Nat.lt_of_lt_of_le (show i.natAbs < 2 ^ 10 by omega) (Nat.pow_le_pow_right (by decide) (by decide)))
    exact decide_eq_true h3
  · rw [PyData.leavesShort]; exact e
theorem txt_all {α : Type} {enc : α → PyData} {n : Nat} : ∀ {xs : List α}, (∀ x ∈ xs, Txt (enc x) n) → PyData.showableAll (xs.map enc) = true ∧ PyData.leavesShortAll 13 (xs.map enc) = true ∧ PyData.bulkAll (xs.map enc) ≤ (n + 1) * xs.length
  | [], _ => by simp [PyData.showableAll, PyData.leavesShortAll, PyData.bulkAll]
  | x :: xs, h => by
    obtain ⟨a1, a2, a3⟩ := h x (by simp)
    obtain ⟨b1, b2, b3⟩ := txt_all (xs := xs) fun y hy => h y (List.mem_cons_of_mem _ hy)
    simp only [List.map_cons, PyData.showableAll, PyData.leavesShortAll, PyData.bulkAll, a1, a2, b1, b2, List.length_cons, Nat.mul_add]
    exact ⟨rfl, rfl, by omega⟩
theorem txt_tup {α : Type} {enc : α → PyData} {n : Nat} {xs : List α} (h : ∀ x ∈ xs, Txt (enc x) n) : Txt (.tuple (xs.map enc)) ((n + 1) * xs.length) := by
  obtain ⟨a1, a2, a3⟩ := txt_all h
  exact ⟨by rw [PyData.showable]; exact a1, by rw [PyData.leavesShort]; exact a2, by rw [PyData.bulk]; exact a3⟩
theorem txt_P {p : Int × Int} (h : -1000 ≤ p.1 ∧ p.1 ≤ 1000) (k : -1000 ≤ p.2 ∧ p.2 ≤ 1000) : Txt (pP p) 2 := by
  have z := txt_tup (enc := PyData.int) (n := 0) (xs := [p.1, p.2]) (fun x hx => by
    simp at hx
    rcases hx with rfl | rfl
    · exact txt_int h
    · exact txt_int k)
  exact z
theorem Txt.fits {d : PyData} {n : Nat} (h : Txt d n) (hn : n ≤ 2 ^ 20) : d.showable = true ∧ d.shown.length ≤ sizeLine := ⟨h.1, PyData.shown_fits_bulk (B := 13) (by decide) (by decide) h.2.1 (Nat.le_trans h.2.2 hn)⟩
theorem repr_Ts {S : Sto} {ps : List (Int × Int)} (h : ∀ p ∈ ps, (-1000 ≤ p.1 ∧ p.1 ≤ 1000) ∧ -1000 ≤ p.2 ∧ p.2 ≤ 1000) (hl : ps.length ≤ 1000) : gRepr [.d (pTs ps)] S = .ok (.d (.str (pTs ps).shown)) S := by
  have t : Txt (pTs ps) _ := txt_tup (enc := pP) (n := 2) fun p hp => txt_P (h p hp).1 (h p hp).2
  have f := t.fits (by omega)
  exact repr_of rfl ⟨encTs.lay ps, f.1, f.2, Nat.le_trans (encTs.dep ps) (by decide)⟩
theorem map_erase {α β : Type} (f : α → β) : ∀ (xs : List α) (k : Nat), (xs.map f).eraseIdx k = (xs.eraseIdx k).map f
  | [], _ => by simp
  | _ :: _, 0 => by simp
  | x :: xs, k + 1 => by simp [map_erase f xs k]
theorem erase_perm {α : Type} : ∀ (xs : List α) (k : Nat) (h : k < xs.length), (xs[k] :: xs.eraseIdx k).Perm xs
  | [], _, h => absurd h (Nat.not_lt_zero _)
  | _ :: _, 0, _ => by simp
  | x :: xs, k + 1, h => by
    have q := erase_perm xs k (by simpa using h)
    simp
    exact (List.Perm.swap _ _ _).trans (q.cons x)
end MV
set_option Elab.async false
set_option linter.all false
set_option maxRecDepth 100000
set_option maxHeartbeats 1000000
/-! The constructs of MvL evaluated. -/
namespace MV
open PySem PySem.Spec PyProof.Rows L2
section
variable {ρ : Envi} {S : Sto} {f g : Sx} {a : SA} {d : SD}
@[simp] theorem e_dNil : dNil ρ S = .ok [] S := (rfl)
@[simp] theorem e_dCons : dCons f g d ρ S = (f ρ S).bind fun v S1 => (g ρ S1).bind fun w S2 => (d ρ S2).bind fun r S3 => (match v.th, w.th with
  | .d x, .d y => match kOf x with
    | some k => .ok ((k, y) :: r) S3
    | none => .no
  | _, _ => .no) := (rfl)
@[simp] theorem e_Dic : evDic d ρ S = (d ρ S).bind fun qs S1 => if qs.length ≤ 15 then .ok (.f (.dic (putAll [] qs))) S1 else .no := (rfl)
@[simp] theorem e_Dic0 : evDic0 ρ S = .ok (.f (.dic [])) S := (rfl)
@[simp] theorem e_TupleRange : evTupleRange a ρ S = (a ρ S).bind fun vs S1 => (match vs with
  | [.d (.int b)] => if rgOk 0 b = true then .ok (.d (.tuple (rgD 0 b))) S1 else .no
  | [.d (.int a), .d (.int b)] => if rgOk a b = true then .ok (.d (.tuple (rgD a b))) S1 else .no
  | _ => .no) := (rfl)
@[simp] theorem e_ListRange : evListRange a ρ S = (a ρ S).bind fun vs S1 => (match vs with
  | [.d (.int b)] => if rgOk 0 b = true then .ok (.f (.lst (rgD 0 b))) S1 else .no
  | [.d (.int a), .d (.int b)] => if rgOk a b = true then .ok (.f (.lst (rgD a b))) S1 else .no
  | _ => .no) := (rfl)
@[simp] theorem kOf_int {i : Int} : kOf (.int i) = some (.inl i) := (rfl)
@[simp] theorem kD_inl {i : Int} : kD (.inl i) = .int i := (rfl)
end
/-! ### dicts whose keys are whole numbers -/
/-- a dict of numbers to data, as its entries stand -/
def dK (kvs : List (Int × PyData)) : List (PyData × PyData) := kvs.map fun p => (.int p.1, p.2)
theorem look_dK (k : Int) : ∀ kvs : List (Int × PyData), look (dK kvs) (.inl k) = (kvs.find? fun p => p.1 == k).map (·.2)
  | [] => rfl
  | (j, y) :: r => by
    have ih := look_dK k r
    unfold dK look at ih ⊢
    rw [List.map_cons, List.find?_cons, List.find?_cons]
    by_cases e : j = k
    · subst e; simp [kOf]
    · have e1 : decide (kOf (PyData.int j) = some (Sum.inl k)) = false := by
        refine decide_eq_false fun h => e ?_
        rw [kOf_int] at h; exact Sum.inl.inj (Option.some.inj h)
      have e2 : (j == k) = false := by simpa using e
      simp only [e1, e2]
      exact ih
def hasK (kvs : List (Int × PyData)) (k : Int) : Bool := kvs.any fun p => p.1 == k
def putK1 (kvs : List (Int × PyData)) (k : Int) (y : PyData) : List (Int × PyData) := if hasK kvs k = true then kvs.map fun p => if p.1 = k then (p.1, y) else p else kvs ++ [(k, y)]
theorem look_has (k : Int) (kvs : List (Int × PyData)) : (look (dK kvs) (.inl k)).isSome = hasK kvs k := by
  rw [look_dK]
  unfold hasK
  induction kvs with
  | nil => rfl
  | cons p r ih =>
    rw [List.find?_cons, List.any_cons]
    cases h : p.1 == k with
    | true => simp
    | false => simpa using ih
theorem putD_dK (k : Int) (y : PyData) (kvs : List (Int × PyData)) : putD (dK kvs) (.inl k) y = dK (putK1 kvs k y) := by
  unfold putD putK1
  rw [look_has]
  split
  · unfold dK
    rw [List.map_map, List.map_map]
    refine List.map_congr_left fun p _ => ?_
    simp only [Function.comp, kOf_int, Option.some.injEq, Sum.inl.injEq]
    split <;> rfl
  · unfold dK
    rw [List.map_append]
    rfl
theorem putAll_dK : ∀ (ks : List Int) (ys : List PyData) (kvs : List (Int × PyData)), putAll (dK kvs) ((ks.map Sum.inl).zip ys) = dK ((ks.zip ys).foldl (fun acc p => putK1 acc p.1 p.2) kvs)
  | [], _, _ => by simp [putAll]
  | _ :: _, [], _ => by simp [putAll]
  | k :: ks, y :: ys, kvs => by
    rw [List.map_cons, List.zip_cons_cons, List.zip_cons_cons, List.foldl_cons]
    show putAll (putD (dK kvs) (.inl k) y) _ = _
    rw [putD_dK]
    exact putAll_dK ks ys _
theorem keysOf_int : ∀ ks : List Int, keysOf (dI ks) = some (ks.map Sum.inl)
  | [] => rfl
  | k :: ks => by
    have ih := keysOf_int ks
    unfold dI at ih ⊢
    rw [List.map_cons]
    unfold keysOf
    rw [kOf_int, ih]; rfl
/-- keys met once each: the dict's entries are the pairs -/
theorem fold_put : ∀ (ks : List Int) (ys : List PyData) (kvs : List (Int × PyData)), (kvs.map (·.1) ++ ks).Nodup → ks.length = ys.length → (ks.zip ys).foldl (fun acc p => putK1 acc p.1 p.2) kvs = kvs ++ ks.zip ys
  | [], _, kvs, _, _ => by simp
  | _ :: _, [], _, _, h => by simp at h
  | k :: ks, y :: ys, kvs, nd, hl => by
    rw [List.zip_cons_cons, List.foldl_cons]
    have no : hasK kvs k = false := by
      rw [List.nodup_append] at nd
      unfold hasK
      rw [List.any_eq_false]
      intro p hp e
      exact nd.2.2 p.1 (List.mem_map_of_mem hp) k (by simp) (by simpa using e)
    have e : putK1 kvs k y = kvs ++ [(k, y)] := by unfold putK1; rw [no]; rfl
    rw [e, fold_put ks ys (kvs ++ [(k, y)]) (by simpa [List.append_assoc] using nd) (by simpa using hl)]
    simp
theorem dictZip_int {S : Sto} {ks : List Int} {ys : List PyData} (nd : ks.Nodup) (hl : ks.length = ys.length) : gDictZip [.d (.tuple (dI ks)), .d (.tuple ys)] S = .ok (.f (.dic (dK (ks.zip ys)))) S := by
  unfold gDictZip
  have hl' : (dI ks).length = ys.length := by unfold dI; rw [List.length_map]; exact hl
  have e := putAll_dK ks ys []
  rw [fold_put ks ys [] (by simpa using nd) hl] at e
  simp only [seq_t, keysOf_int, hl', if_true]
  rw [show (putAll [] ((ks.map Sum.inl).zip ys)) = putAll (dK []) ((ks.map Sum.inl).zip ys) from rfl, e]
  rfl
theorem dictZip_seq {S : Sto} {ks : List Int} {ys : List PyData} {v w : Val} {t t' : Bool} {g g' : List (Nat × List PyData)} (hv : seqOf S v = some (t, dI ks, g)) (hw : seqOf S w = some (t', ys, g')) (nd : ks.Nodup) (hl : ks.length = ys.length) : gDictZip [v, w] S = .ok (.f (.dic (dK (ks.zip ys)))) S := by
  have z := dictZip_int (S := S) nd hl
  unfold gDictZip at z ⊢
  dsimp only [seq_t] at z ⊢
  rw [hv, hw]
  exact z
/-- asked by the i-th key -/
theorem look_zip {ks : List Int} {ys : List PyData} (nd : ks.Nodup) {i : Nat} {k : Int} {y : PyData} (hk : ks[i]? = some k) (hy : ys[i]? = some y) : look (dK (ks.zip ys)) (.inl k) = some y := by
  rw [look_dK]
  induction ks generalizing ys i with
  | nil => simp at hk
  | cons j ks ih =>
    cases ys with
    | nil => simp at hy
    | cons z ys =>
      rw [List.zip_cons_cons, List.find?_cons]
      cases i with
      | zero =>
        simp at hk hy
        subst hk hy
        simp
      | succ i =>
        have hk : ks[i]? = some k := by simpa using hk
        have hy : ys[i]? = some y := by simpa using hy
        have ne : (j == k) = false := by
          have := (List.nodup_cons.mp nd).1
          simp only [beq_eq_false_iff_ne]
          intro e
          exact this (e ▸ List.mem_of_getElem? hk)
        simp only [ne]
        exact ih (List.nodup_cons.mp nd).2 hk hy
theorem seq_app {T C : Sto} {v : Val} {q : Bool × List PyData × List (Nat × List PyData)} (h : seqOf T v = some q) : seqOf (T ++ C) v = some q := by
  cases v with
  | f k => cases h
  | g k j => cases h
  | x => cases h
  | d x => cases x <;> first | exact h | cases h
  | z es => exact h
  | c m =>
    rw [seq_c] at h ⊢
    split at h
    · rename_i es q
      rw [List.getElem?_append_left (st_lt q), q]
      exact h
    · cases h
/-! ### rows -/
theorem range_at {n k : Nat} {pre post : List Nat} (e : List.range n = pre ++ k :: post) : k = pre.length ∧ k < n := by
  have h := congrArg (fun l : List Nat => l[pre.length]?) e
  simp at h
  have hk : k ∈ List.range n := by rw [e]; simp
  rw [List.mem_range] at hk
  have hl : pre.length < n := by
    have := congrArg List.length e
    simp at this
    omega
  rw [List.getElem?_range hl] at h
  exact ⟨(Option.some.inj h).symm, hk⟩
theorem sub_len {α : Type} [DecidableEq α] : ∀ {xs ys : List α}, xs.Nodup → (∀ x ∈ xs, x ∈ ys) → xs.length ≤ ys.length
  | [], _, _, _ => Nat.zero_le _
  | x :: xs, ys, nd, hs => by
    have hx := hs x (by simp)
    have nx := (List.nodup_cons.mp nd).1
    have := sub_len (xs := xs) (ys := ys.erase x) (List.nodup_cons.mp nd).2 fun z hz => (List.mem_erase_of_ne fun q => nx (by rw [← q]; exact hz)).mpr (hs z (List.mem_cons_of_mem _ hz))
    rw [List.length_erase_of_mem hx] at this
    have := List.length_pos_of_mem hx
    simp
    omega
theorem perm_ints {P : List Int} {ds : List PyData} (h : ds.Perm (dI P)) : ∃ N, ds = dI N ∧ N.Perm P := by
  refine ⟨ds.map fun d => match d with | .int a => a | _ => 0, ?_, ?_⟩
  · show ds = List.map PyData.int (List.map _ ds)
    rw [List.map_map]
    refine (List.map_id _).symm.trans (List.map_congr_left fun d hd => ?_)
    obtain ⟨t, _, rfl⟩ := List.mem_map.mp (h.mem_iff.mp hd)
    rfl
  · have q := h.map fun d => match d with | .int a => a | _ => 0
    rw [List.map_map] at q
    have e : ((fun d => match d with | .int a => a | _ => 0) ∘ PyData.int) = (id : Int → Int) := rfl
    rw [e, List.map_id] at q
    exact q
def rngI (n : Nat) : List Int := (List.range n).map fun (k : Nat) => (k : Int)
theorem rise_nat (n : Nat) : Rise (rngI n) := by
  unfold rngI
  rw [Rise, List.pairwise_map]
  exact List.Pairwise.imp (fun {a b} h => by omega) List.pairwise_lt_range
theorem mem_rngI {n : Nat} {a : Int} : a ∈ rngI n ↔ 0 ≤ a ∧ a < n := by
  unfold rngI
  rw [List.mem_map]
  constructor
  · rintro ⟨k, hk, rfl⟩
    rw [List.mem_range] at hk
    omega
  · intro h
    exact ⟨a.toNat, List.mem_range.mpr (by omega), by omega⟩
theorem rgD_nat (n : Nat) : rgD 0 (n : Int) = dI (rngI n) := by
  unfold rgD rngI
  show _ = List.map PyData.int (List.map _ _)
  rw [List.map_map]
  refine List.map_congr_left fun k _ => ?_
  simp
theorem ints_dI : ∀ ns : List Int, intsOf (dI ns) = some ns
  | [] => rfl
  | n :: ns => by
    have ih := ints_dI ns
    unfold dI at ih ⊢
    rw [List.map_cons]
    unfold intsOf
    rw [ih]
    rfl
theorem g_maxL {ns : List Int} {t : Int} (S : Sto) (h : topL ns = some t) : gMax [.d (.list (dI ns))] S = .ok (.d (.int t)) S := by
  unfold gMax
  simp [asR, seqOf, ints_dI, h]
theorem g_minL {ns : List Int} {t : Int} (S : Sto) (h : lowL ns = some t) : gMin [.d (.list (dI ns))] S = .ok (.d (.int t)) S := by
  unfold gMin
  simp [asR, seqOf, ints_dI, h]
theorem low_ex {ns : List Int} (h : ns ≠ []) : ∃ t, lowL ns = some t ∧ t ∈ ns ∧ ∀ y ∈ ns, t ≤ y := by
  cases ns with
  | nil => exact absurd rfl h
  | cons n ns => exact ⟨_, rfl, lowL_ok rfl⟩
theorem at_last {α : Type} (xs : List α) (x : α) : atI (xs ++ [x]) (-1) = some x := by
  unfold atI ixN
  rw [if_neg (by decide), if_pos (by simp; omega)]
  have e : (-1 + ((xs ++ [x]).length : Int)).toNat = xs.length := by simp; omega
  show (xs ++ [x])[(-1 + ((xs ++ [x]).length : Int)).toNat]? = some x
  rw [e]; simp
theorem ix_T {ns : List Int} {i y : Int} {S : Sto} (e : atI (dI ns) i = some (.int y)) : gIx (.d (pT ns)) (.d (.int i)) S = .ok (.d (.int y)) S := by
  show gIx (.d (.tuple (dI ns))) (.d (.int i)) S = _
  rw [o_ixT, e]
end MV
set_option Elab.async false
set_option linter.all false
set_option maxRecDepth 100000
/-! Evaluation: dicts of which an item may be a cell. -/
namespace MV
open PySem PySem.Spec PyProof.Rows L2
section
variable {S : Sto} {n m : Nat} {ps : List (Key × Itm)} {ρ : Envi} {f g h : Sx}
@[simp] theorem e_sPutQ : sPutQ f g h ρ S = (h ρ S).bind fun x S1 => (f ρ S1).bind fun v S2 => (g ρ S2).bind fun i S3 => (match gPutR v.th i.th x.th S3 with | some S4 => .ok (.nx ρ) S4 | none => .no) := (rfl)
@[simp] theorem e_DicR {f : SR} : evDicR f ρ S = (f ρ S).bind fun qs S1 => if qs.length ≤ 15 ∧ (Cell.rcd (rPutAll [] qs)).lt S1.length = true then .ok (.f (.rcd (rPutAll [] qs))) S1 else .no := (rfl)
@[simp] theorem e_rNil : rNil ρ S = .ok [] S := (rfl)
@[simp] theorem e_rCons {r : SR} : rCons f g r ρ S = (f ρ S).bind fun v S1 => (g ρ S1).bind fun w S2 => (r ρ S2).bind fun r S3 => (match v.th, itmOf w.th with | .d x, some i => (match kOf x with | some k => .ok ((k, i) :: r) S3 | none => .no) | _, _ => .no) := (rfl)
theorem ixR_c {x : Str} {i : Itm} (h : S[n]? = some (.rcd ps)) (k : rLook ps (.inr x) = some i) : gIxR (.c n) (.d (.str x)) S = .ok i.val S := by
  unfold gIxR rIx
  simp only [h, kOf, k]
  rfl
theorem putR_c {x : Str} {y : PyData} (h : S[n]? = some (.rcd ps)) (hl : ps.length < sizeLine) (lt : (Cell.rcd (rPut ps (.inr x) (.d y))).lt n = true) : gPutR (.c n) (.d (.str x)) (.d y) S = some (S.set n (.rcd (rPut ps (.inr x) (.d y)))) := by
  unfold gPutR
  simp only [h, kOf]
  exact if_pos ⟨hl, lt⟩
theorem o_inLd {ds : List PyData} {d : PyData} (s1 : SeqAt.shaped d = true) (s2 : SeqAt.shaped (.list ds) = true) : isIn S (.d d) (.d (.list ds)) = some (ds.any fun z => PyData.eqv z d) := by
  have e : isIn S (.d d) (.d (.list ds)) = (if SeqAt.shaped d = true ∧ SeqAt.shaped (.list ds) = true then some (ds.any fun z => PyData.eqv z d) else none) := by
    unfold isIn
    cases d <;> rfl
  rw [e, if_pos ⟨s1, s2⟩]
theorem Enc.inLd {α : Type} {enc : α → PyData} {k : Nat} (h : Enc enc k) (a : α) (xs : List α) [Decidable (a ∈ xs)] (hn : k + 1 ≤ 64 := by decide) : gIn (.d (enc a)) (.d (.list (xs.map enc))) S = .ok (.d (.bool (decide (a ∈ xs)))) S := by
  unfold gIn
  rw [o_inLd (h.shaped (by omega) a) (h.lst.shaped hn xs), h.any]
theorem Enc.notInLd {α : Type} {enc : α → PyData} {k : Nat} (h : Enc enc k) (a : α) (xs : List α) [Decidable (a ∈ xs)] (hn : k + 1 ≤ 64 := by decide) : gNotIn (.d (enc a)) (.d (.list (xs.map enc))) S = .ok (.d (.bool (!decide (a ∈ xs)))) S := by
  unfold gNotIn
  rw [o_inLd (h.shaped (by omega) a) (h.lst.shaped hn xs), h.any]
/-! dicts of pairs, all of which hold True -/
@[simp] theorem e_sPutT : sPutT f g h ρ S = (h ρ S).bind fun x S1 => (f ρ S1).bind fun v S2 => (g ρ S2).bind fun i S3 => (match gPutT v.th i.th x.th S3 with | some S4 => .ok (.nx ρ) S4 | none => .no) := (rfl)
@[simp] theorem lt_dtp {k : Nat} {es : List ((Int × Int) × PyData)} : Cell.lt k (.dtp es) = true := (rfl)
def tks (ts : List (Int × Int)) : List ((Int × Int) × PyData) := ts.map fun t => (t, .bool true)
def TD (c : Cell) (ts : List (Int × Int)) : Prop := c = .dtp (tks ts) ∨ (ts = [] ∧ c = .dic [])
def addT (ts : List (Int × Int)) (t : Int × Int) : List (Int × Int) := if t ∈ ts then ts else ts ++ [t]
theorem putT_tks (ts : List (Int × Int)) (t : Int × Int) : putT (tks ts) t (.bool true) = tks (addT ts t) := by
  unfold putT addT
  have e : ((tks ts).any fun p => decide (p.1 = t)) = decide (t ∈ ts) := by
    unfold tks
    rw [List.any_map, Bool.eq_iff_iff, List.any_eq_true, decide_eq_true_iff]
    constructor
    · rintro ⟨x, hx, e⟩
      have e := of_decide_eq_true e
      dsimp only at e
      rw [← e]; exact hx
    · exact fun h => ⟨t, h, decide_eq_true rfl⟩
  rw [e]
  by_cases c : t ∈ ts
  · rw [if_pos (decide_eq_true c), if_pos c]
    unfold tks
    rw [List.map_map]
    refine List.map_congr_left fun x hx => ?_
    dsimp only [Function.comp]
    split
    · rfl
    · rfl
  · rw [if_neg (by simpa using c), if_neg c]
    simp [tks]
theorem td_put {c : Cell} {ts : List (Int × Int)} {t : Int × Int} (h : S[n]? = some c) (d : TD c ts) (hl : ts.length < sizeLine) :
    ∃ c', gPutT (.c n) (.d (.tuple [.int t.1, .int t.2])) (.d (.bool true)) S = some (S.set n c') ∧ TD c' (addT ts t) := by
  rcases d with rfl | ⟨rfl, rfl⟩
  · refine ⟨.dtp (tks (addT ts t)), ?_, .inl rfl⟩
    unfold gPutT pOf
    simp only [h]
    rw [if_pos (by unfold tks; rw [List.length_map]; exact hl), putT_tks]
  · refine ⟨.dtp [(t, .bool true)], ?_, .inl rfl⟩
    unfold gPutT pOf
    simp only [h]
theorem addT_mem {ts : List (Int × Int)} {t u : Int × Int} : u ∈ addT ts t ↔ u ∈ ts ∨ u = t := by
  unfold addT
  split
  · rename_i c
    exact ⟨.inl, fun q => q.elim id fun e => e ▸ c⟩
  · simp
theorem addT_nodup {ts : List (Int × Int)} {t : Int × Int} (h : ts.Nodup) : (addT ts t).Nodup := by
  unfold addT
  split
  · exact h
  · rename_i c
    rw [List.nodup_append]
    exact ⟨h, by simp, fun a ha b hb e => by rw [List.mem_singleton.mp hb] at e; exact c (e ▸ ha)⟩
theorem addT_len {ts : List (Int × Int)} {t : Int × Int} : (addT ts t).length ≤ ts.length + 1 := by
  unfold addT
  split
  · omega
  · simp
theorem pDs_tks (ts : List (Int × Int)) : pDs (tks ts) = dP ts := by
  unfold pDs tks
  rw [List.map_map]
  rfl
theorem td_sorted {c : Cell} {ts : List (Int × Int)} (h : S[n]? = some c) (d : TD c ts) (hl : ts.length ≤ sizeLine) : gSortedT [.c n] S = .ok (.f (.lst (dP (psort ts)))) S := by
  rcases d with rfl | ⟨rfl, rfl⟩
  · rw [← sorted_pair (S := S) (v := .d (.list (dP ts))) (t := false) (g := []) (by simp) hl]
    unfold gSortedT gSorted
    have e : dtpOf S (.c n) = some (tks ts) := by
      show (match S[n]? with | some (.dtp es) => some es | _ => none) = _
      rw [h]
    simp only [e, seq_l]
    rw [pDs_tks]
  · unfold gSortedT gSortedK
    have e : dtpOf S (.c n) = none := by
      show (match S[n]? with | some (.dtp es) => some es | _ => none) = _
      rw [h]
    simp only [e]
    simp [asM, h, intsOf]
    exact List.mergeSort_nil
theorem pairsT_true (ts : List (Int × Int)) : pairsT (ts.map fun t => .tuple [pP t, .bool true]) = some (tks ts) := by
  induction ts with
  | nil => rfl
  | cons t ts ih =>
    show pairsT (.tuple [pP t, .bool true] :: _) = _
    unfold pairsT
    rw [ih]
    rfl
theorem td_all (ts : List (Int × Int)) : ∀ us : List (Int × Int), putAllT (tks us) (tks ts) = tks (ts.foldl addT us) := by
  induction ts with
  | nil => exact fun _ => rfl
  | cons t ts ih =>
    intro us
    show putAllT (putT (tks us) t (.bool true)) (tks ts) = _
    rw [putT_tks, ih]
    rfl
theorem addT_fold {ts : List (Int × Int)} : ∀ {us : List (Int × Int)}, us.Nodup → (ts.foldl addT us).Nodup ∧ (∀ u, u ∈ ts.foldl addT us ↔ u ∈ us ∨ u ∈ ts) := by
  induction ts with
  | nil => exact fun h => ⟨h, fun u => by simp⟩
  | cons t ts ih =>
    intro us h
    obtain ⟨h1, h2⟩ := ih (addT_nodup (t := t) h)
    refine ⟨h1, fun u => ?_⟩
    rw [List.foldl_cons, h2, addT_mem, List.mem_cons]
    rw [or_assoc]
theorem td_dict (ts : List (Int × Int)) : gDictT [.d (.list (ts.map fun t => .tuple [pP t, .bool true]))] S = .ok (.f (.dtp (tks (ts.foldl addT [])))) S := by
  unfold gDictT
  simp only [asL_l, Option.bind_some, pairsT_true]
  rw [← td_all]
  rfl
/-! sorted(set(..)) -/
@[simp] theorem e_SorS : evSorS f ρ S = (f ρ S).bind fun v S1 => gSorS v.th S1 := (rfl)
theorem sorS_I {v : Val} {t : Bool} {ns : List Int} {g : List (Nat × List PyData)} (hv : seqOf S v = some (t, dI ns, g)) (hl : ns.length < 60) : gSorS v S = .ok (.f (.lst (dI (isort (dd ns))))) S := by
  unfold gSorS
  simp only [hv, ints_dI]
  rw [if_pos hl]
  rfl
theorem sorS_P {v : Val} {t : Bool} {ts : List (Int × Int)} {g : List (Nat × List PyData)} (hv : seqOf S v = some (t, dP ts, g)) (hl : ts.length < 64) (hb : ∀ t ∈ ts, 0 ≤ t.1 ∧ t.1 < 1000 ∧ 0 ≤ t.2 ∧ t.2 < 1000) : gSorS v S = .ok (.f (.lst (dP (psort (dd ts))))) S := by
  unfold gSorS
  cases ts with
  | nil =>
    simp only [hv]
    show (if (0 : Nat) < 60 then _ else _) = _
    rw [if_pos (by decide)]
    simp [dd, psort]
  | cons u ts =>
    have e1 : intsOf (dP (u :: ts)) = none := rfl
    have e2 : pairsI (dP (u :: ts)) = some (u :: ts) := pairsI_map (u :: ts)
    simp only [hv, e1, e2]
    rw [if_pos ⟨hl, List.all_eq_true.mpr fun p hp => decide_eq_true (hb p hp)⟩]
    rfl
/-! ### lists of lists -/
@[simp] theorem e_If2 {c : Envi → Bool} {f g : Sx} : evIf2 c f g ρ S = if c ρ = true then f ρ S else g ρ S := (rfl)
@[simp] theorem e_notV {i : Nat} {k : Int} : notV i k ρ = (match ρ[i]? with | some (some (.d (.int j))) => j != k | _ => true) := (rfl)
@[simp] theorem ixN_d {x : PyData} {w : Val} : gIxN (.d x) w S = gIx (.d x) w S := (rfl)
theorem ixN_lst {n : Nat} {ds : List PyData} {w : Val} (h : S[n]? = some (.lst ds)) : gIxN (.c n) w S = gIx (.c n) w S := by
  have e : nlsOf S (.c n) = none := by
    unfold nlsOf
    dsimp only
    rw [h]
  unfold gIxN
  rw [e]
theorem ixN_nls {n : Nat} {is : List Itm} {i : Int} {z : Itm} (h : S[n]? = some (.nls is)) (k : atI is i = some z) : gIxN (.c n) (.d (.int i)) S = .ok z.val S := by
  have e : nlsOf S (.c n) = some (n, is) := by
    unfold nlsOf
    dsimp only
    rw [h]
  unfold gIxN
  rw [e]
  dsimp only
  rw [k]
theorem gGo_map {α : Type} {bd : Bnd} {e : Sx} {base : Sto} (enc : α → PyData) (cel : α → List PyData) : ∀ (xs : List α) (acc : List Cell), (∀ x ∈ xs, ∃ ρ1, bd.go (enc x) ρ = some ρ1 ∧ ∀ T : Sto, e ρ1 T = .ok (.f (.lst (cel x))) T) → gGo bd e ρ base (xs.map enc) acc = some (acc ++ xs.map fun x => .lst (cel x))
  | [], acc, _ => by
    unfold gGo
    rw [List.map_nil, List.map_nil, List.append_nil]
  | x :: xs, acc, h => by
    obtain ⟨ρ1, h1, h2⟩ := h x (by simp)
    rw [List.map_cons]
    unfold gGo
    rw [h1]
    dsimp only
    rw [h2]
    dsimp only
    rw [if_pos rfl, gGo_map enc cel xs _ fun y hy => h y (List.mem_cons_of_mem _ hy)]
    simp
theorem e_CompG {α : Type} {src : SI} {bd : Bnd} {e : Sx} {own : List Nat} (enc : α → PyData) (cel : α → List PyData) (xs : List α) (hs : src ρ S = .ok ⟨xs.map enc, []⟩ S) (hl : xs.length ≤ 1000) (h : ∀ x ∈ xs, ∃ ρ1, bd.go (enc x) (wipeE ρ own) = some ρ1 ∧ ∀ T : Sto, e ρ1 T = .ok (.f (.lst (cel x))) T) :
    evCompG src bd e own ρ S = .ok (.g ((xs.map fun x => .lst (cel x)) ++ [nlsC S.length xs.length]) xs.length) S := by
  unfold evCompG
  rw [hs]
  simp only [bind_ok]
  rw [if_pos (by have : (1000 : Nat) ≤ sizeLine := by decide
                 rw [List.length_map]; omega), gGo_map enc cel xs [] h]
  simp
theorem nGo_map {i : Nat} {e : Sx} (f : Itm → PyData) : ∀ (is : List Itm) (acc : List PyData), (∀ x ∈ is, ∃ v, e (ρ.set i (some x.val)) S = .ok v S ∧ v.th = .d (f x)) → nGo i e ρ S is acc = some (acc ++ is.map f)
  | [], acc, _ => by
    unfold nGo
    rw [List.map_nil, List.append_nil]
  | x :: xs, acc, h => by
    obtain ⟨v, h1, h2⟩ := h x (by simp)
    unfold nGo
    rw [h1]
    dsimp only
    rw [if_pos rfl, h2]
    dsimp only
    rw [nGo_map f xs _ fun y hy => h y (List.mem_cons_of_mem _ hy)]
    simp
theorem e_CompN {i n : Nat} {e : Sx} {g : Sx} {own : List Nat} (f : Itm → PyData) (is : List Itm) (hg : g ρ S = .ok (.c n) S) (hn : S[n]? = some (.nls is)) (hl : is.length ≤ 1000) (h : ∀ x ∈ is, ∃ v, e ((wipeE ρ own).set i (some x.val)) S = .ok v S ∧ v.th = .d (f x)) :
    evCompN g i e own ρ S = .ok (.f (.lst (is.map f))) S := by
  have q : nlsOf S (.c n) = some (n, is) := by
    unfold nlsOf
    dsimp only
    rw [hn]
  unfold evCompN
  rw [hg]
  simp only [bind_ok, th_c]
  rw [q]
  dsimp only
  rw [if_pos (by have : (1000 : Nat) ≤ sizeLine := by decide
                 omega), nGo_map f is [] h]
  rfl
@[simp] theorem e_Swp {o1 k1 o2 k2 : Sx} {f : SA} : sSwp o1 k1 o2 k2 f ρ S = (f ρ S).bind fun vs S1 => match vs with
  | [x1, x2] => (o1 ρ S1).bind fun v1 S2 => (k1 ρ S2).bind fun i1 S3 => match gPut v1.th i1.th x1 S3 with
    | some S4 => (o2 ρ S4).bind fun v2 S5 => (k2 ρ S5).bind fun i2 S6 => match gPut v2.th i2.th x2 S6 with
      | some S7 => .ok (.nx ρ) S7
      | none => .no
    | none => .no
  | _ => .no := (rfl)
end
end MV
set_option Elab.async false
set_option linter.all false
set_option maxRecDepth 100000
set_option maxHeartbeats 2000000
/-! NoDeed(number): made, raised, caught, read. -/
namespace PySem.W
section
variable {prog : Program} {w : World} {A : Around} {E : Value → Shared → Prop} {s : Shared} {K : Frag} {name : Str} {v : Value}
/-- C.name asked for a call, C a class of the program -/
theorem method_own {C : Addr} {pl : Sem Bool} {Q : Value × List Value → Shared → Prop} (X : K.In s.heap) (hr : readsIn K C (.type "type") = true)
    (e : findCls K (.ref C) (.type "type") name = some (.val v)) (hh : handedIn v = true) (h : Q (v, []) { s with toks := s.toks + 1 }) : wpAny (model prog w) A (getMethod (.ref C) name pl) Q E s := by
  simp only [readsIn, Bool.and_eq_true, beq_iff_eq] at hr
  obtain ⟨⟨⟨⟨a, b⟩, g⟩, d⟩, f⟩ := hr
  obtain ⟨hk, d⟩ := Option.isSome_iff_exists.mp d
  unfold getMethod specialOf
  refine wpAny_bind (wpAny_bind ((looks_typeIn X b).here ((looks_findIn X g).here ?_)))
  dsimp only
  rw [if_pos canon_tga]
  refine wpAny_bind (wpAny_mono (Q := fun v => Q (v, [])) (E := E) ?_ (fun _ _ z => wpAny_pure z) fun _ _ z => z)
  exact cls_open X (looks_opaque X a) (looks_typeIn X b) g (looks_hook X d) f e
    (wpAny_pure (by show wpAny _ _ (handedOut v) _ _ _; rw [handedOut_of hh]; exact wpAny_pure h))
end
end PySem.W
namespace MV
open PySem PySem.Spec PyProof.Rows L2
/-- what the written part says of NoDeed, at C, of WebError, at B -/
structure NoD (K : Frg) (mg : Str → Option Value) (C fI B : Addr) : Prop where
  gC : mg "NoDeed" = some (.ref C)
  gB : mg "WebError" = some (.ref B)
  T : OexC K C
  ga : PySem.W.findIn K (.ref C) "__getattribute__" = some (some (.builtin "BaseException.__getattribute__"))
  gg : PySem.W.findIn K (.ref C) "__getattr__" = some none
  no : PySem.W.findIn K (.ref C) "number" = some none
  iC : PySem.W.findIn K (.ref C) "__init__" = some (some (.ref fI))
  tI : PySem.W.typeIn K (.ref fI) = some (.type "function")
  hd : PySem.W.hasDictIn K C = true
  te : PySem.W.exmOne K (.ref C) (.ref C) = some true
  tb : PySem.W.exmOne K (.ref C) (.ref B) = some true
  rB : PySem.W.readsIn K B (.type "type") = true
  iB : PySem.W.findCls K (.ref B) (.type "type") "__init__" = some (.val (.builtin "ValueError.__init__"))
section
variable {X : Cx} {C fI B : Addr} {e : Expr} {es : List Expr} {ta : TA} {p p1 p2 pos : Pos}
/-- WebError.__init__(self, ..) -/
theorem pe_winit {pl : Sem Bool} (T : NoD X.K X.mg C fI B) (hg : Gl X "WebError") (ha : PA X (e :: es) ta)
    (hc : eval (.Call (.Attribute (.Name "WebError" p1) "__init__" p2) (e :: es) [] pos) X.env = (do
      let ov ← eval (.Name "WebError" p1) X.env
      standAt p2.atName
      let (f, first) ← holding [ov] (getMethod ov "__init__" pl)
      callWith pos f first (backTo pos (starEach (e :: es) X.env)) (backToKw pos (keywordEach [] X.env))) := by rfl)
    (he : starEach (e :: es) X.env = (false, eval e X.env) :: starEach es X.env := by rfl) (hpl : (backTo pos (starEach es X.env)).any (·.1) = false := by rfl) :
    PE X (.Call (.Attribute (.Name "WebError" p1) "__init__" p2) (e :: es) [] pos) (tVeI X.K ta) := by
  refine ⟨fun pins s σ H Q I h => ?_⟩
  refine PySem.W.methodCall_KW (ld_glob I hg T.gB ?_) hc
  refine PySem.W.method_own I.kIn T.rB T.iB (by decide +kernel) ?_
  show wpAny _ _ (callWith pos (Value.builtin "ValueError.__init__") [] (backTo pos (starEach (e :: es) X.env)) []) _ _ _
  refine PyProof.Rows.callWith_method1 (thn (ha.run pos pins _ σ H _ (I.tok _) h) fun us s1 ⟨vs, H1, I1, r1, a, C', ws, ev, hl, T', ea, q⟩ => ?_) he hpl
  subst ev
  cases r1 with
  | @cons _ u0 _ ur ra rw' =>
    obtain rfl : u0 = Value.ref a := ra
    have hlen : ur.length ≤ sizeLine := by
      rw [← Paired.length rw', sizeLine_eq]
      omega
    exact oinit_ok T' I1 ea hlen fun s' J => ⟨.non, H1, J, rfl, q⟩
/-- raise NoDeed(number) -/
def spI (C : Addr) : Sp := fun vs H Q _ => ∃ (a : Addr) (n : Int), vs = [.ref a, .int n] ∧ H a = some (exo a C none) ∧ ∀ dx, H dx = none → dx ≠ a → Q .non (upd (upd H dx (exd dx [("number", .int n)])) a (exo a C (some dx)))
def xdN (n : Int) : HO := .xd [("number", .int n)]
def tRz (C : Addr) (W : WX) (ta : TA) : TS := fun _ σ H => ta σ H fun vs H1 => ∃ n : Int, vs = [.int n] ∧ ∀ d, H1 d = none → W (.ref C) (some d) σ (upd H1 d (xdN n))
theorem ps_rz {CX : CXT} {k : Nat} {fd : FuncData} {W : WX} {pos2 : Pos} (hc : X.calm = true) (T : NoD X.K X.mg C fI B) (F1 : FnOk X.prog X.w X.K X.mg X.base CX k fI fd ["self", "number"] (spI C)) (hr : Room (k + 1) X.A) (hb : Binds X.K fd ["self", "number"] [])
    (hx : Passes CX X (fun _ _ _ => False)) (tk : Takes X W) (hg : Gl X "NoDeed") (ha : PA X [e] ta) (hw : ∀ (σ : L2.St) (H : Hp) (Q Q' : List V → Hp → Prop), (∀ vs H1, Q vs H1 → Q' vs H1) → ta σ H Q → ta σ H Q')
    (he : starEach (e :: []) X.env = (false, eval e X.env) :: starEach [] X.env := by rfl) (hpl : (backTo pos (starEach [] X.env)).any (·.1) = false := by rfl) :
    PS X (.Raise (some (.Call (.Name "NoDeed" p) [e] [] pos)) none pos2) (tRz C W ta) := by
  have m := pmk_oex (ds := []) (dvs := []) T.T T.iC T.tI F1 hr hb .nil hx hg T.gC ha (by decide) he hpl (p := p)
  have r := ps_raise (pos := pos2) hc tk m
  refine ⟨fun pins s σ H D I h => r.run pins s σ H D I ?_⟩
  refine hw σ H _ _ (fun vs H1 q => ?_) h
  obtain ⟨n, rfl, q⟩ := q
  refine ⟨by simp, fun a ha => ⟨a, n, rfl, by rw [upd_same], fun dx hd ne => ⟨rfl, dx, [("number", .int n)], by rw [upd_same], by rw [upd_ne ne, upd_same], ?_, ?_⟩⟩⟩
  · rw [upd_ne ne] at hd
    exact hd
  · rw [upd_ne ne] at hd
    have e : L2.upd (del (L2.upd (L2.upd (L2.upd H1 a (exo a C none)) dx (exd dx [("number", .int n)])) a (exo a C (some dx))) a) dx (HO.xd [("number", V.int n)]) = L2.upd H1 dx (xdN n) := by
      funext b
      by_cases h1 : b = dx
      · rw [h1, upd_same, upd_same]
        rfl
      · rw [upd_ne h1, upd_ne h1]
        by_cases h2 : b = a
        · rw [h2, del_same, ha]
        · rw [del_ne h2, upd_ne h2, upd_ne h1, upd_ne h2]
    rw [e]
    exact q dx hd
theorem tAr_mono {K : Frg} {f : SA} (σ : L2.St) (H : Hp) (Q Q' : List V → Hp → Prop) (h : ∀ vs H1, Q vs H1 → Q' vs H1) (t : tAr K f σ H Q) : tAr K f σ H Q' := by
  obtain ⟨A, S, ρ, w, env, p⟩ := t
  refine ⟨A, S, ρ, w, env, ?_⟩
  change PostA K A H Q' (f ρ S)
  change PostA K A H Q (f ρ S) at p
  cases q : f ρ S with
  | ok vs S1 => rw [q] at p; exact fun xs H' e w r => h _ _ (p xs H' e w r)
  | exc e S1 => rw [q] at p; exact p
  | no => rw [q] at p; exact p
end
/-! ### what may be raised -/
def noD (n : Int) : Exn := ⟨"NoDeed", [("number", .int n)]⟩
def ExP (K : Frg) (C : Addr) (A : Wd) (H : Hp) (E : XK) (e : Exn) (S : Sto) : Prop := ∃ n, e = noD n ∧ ∀ A' d H', Ext A H A' H' → Wf K A' (S.take A'.A.length) H' → H' d = some (xdN n) → E (.ref C) (some d) H'
def PostX (K : Frg) (C : Addr) (A : Wd) (H : Hp) (Q : VK) (E : XK) : Res Val → Prop
  | .exc e S => ExP K C A H E e S
  | r => Post K A H Q r
def PostSX (K : Frg) (C : Addr) (A : Wd) (H : Hp) (D : Ends) (E : XK) : Res Fw → Prop
  | .exc e S => ExP K C A H E e S
  | r => PostS K A H D r
def tSX (K : Frg) (C : Addr) (E : XK) (f : Ss) : TS := fun D σ H => At K σ H fun A ρ S => PostSX K C A H D E (f ρ S)
def spX (K : Frg) (C : Addr) (m : Fn) : Sp := fun xs H Q E => ∃ A S vs, Wf K A S H ∧ RvL K A H xs vs ∧ PostX K C A H Q E (m vs S)
section
variable {K : Frg} {C : Addr} {A A' A2 : Wd} {H H' H2 : Hp} {S S' : Sto} {Q Q' : VK} {E : XK} {ρ : Envi} {σ : L2.St} {D : Ends}
theorem ExP.shift {e : Exn} (h : ExP K C A H E e S) (x : Ext A H A2 H2) : ExP K C A2 H2 E e S := by
  obtain ⟨n, e1, q⟩ := h
  exact ⟨n, e1, fun A' d H' e w r => q A' d H' (x.trans e) w r⟩
theorem PostSX.shift {r : Res Fw} (h : PostSX K C A H D E r) (e : Ext A H A2 H2) (w : Wf K A2 S H2) : PostSX K C A2 H2 D E r := by
  cases r with
  | ok f S1 => exact PostS.shift (r := .ok f S1) h e w
  | exc e1 S1 => exact ExP.shift (S := S1) h e
  | no => exact h
theorem PostX.shift {r : Res Val} (h : PostX K C A H Q E r) (e : Ext A H A H2) (w : Wf K A S H2) : PostX K C A H2 Q E r := by
  cases r with
  | ok f S1 => exact Post.shift (r := .ok f S1) h e w
  | exc e1 S1 => exact ExP.shift (S := S1) h e
  | no => exact h
/-- what ends without an exception, seen so -/
def sNx (f : Ss) : Ss := fun ρ S => match f ρ S with
  | .exc _ _ => .no
  | r => r
end
section
variable {X : Cx} {C fI B : Addr} {E : XK} {p pos pos' : Pos} {f g : Ss} {x : Str}
theorem sLiftX {st : Stmt} (h : PS X st (tS X.K f)) : PS X st (tSX X.K C E (sNx f)) := PSi h fun D σ H ⟨A, S, ρ, w, env, p⟩ => ⟨A, S, ρ, w, env, by
  change PostS X.K A H D (f ρ S)
  change PostSX X.K C A H D E (sNx f ρ S) at p
  unfold sNx at p
  cases q : f ρ S with
  | ok v S1 => rw [q] at p; exact p
  | exc e S1 => rw [q] at p; exact p.elim
  | no => rw [q] at p; exact p.elim⟩
theorem ss1X {st : Stmt} (h : PS X st (tSX X.K C E f)) : PSs X [st] (tSX X.K C E f) := pss_one h
theorem ssNX : PSs X [] (tSX X.K C E sNil) := PSsi pss_nil fun D σ H ⟨A, S, ρ, w, env, p⟩ => p A σ H .refl w env
theorem ssCX {st : Stmt} {rest : List Stmt} (h1 : PS X st (tSX X.K C E f)) (h2 : PSs X rest (tSX X.K C E g)) : PSs X (st :: rest) (tSX X.K C E (sSeq f g)) := PSsi (pss_cons h1 h2) fun D σ H ⟨A, S, ρ, w, env, p⟩ => ⟨A, S, ρ, w, env, by
  change PostSX X.K C A H { D with nx := tSX X.K C E g D } E (f ρ S)
  change PostSX X.K C A H D E (sSeq f g ρ S) at p
  unfold sSeq at p
  cases h : f ρ S with
  | no => rw [h] at p; exact p
  | exc e S1 => rw [h] at p; exact p
  | ok v S1 =>
    rw [h] at p
    cases v with
    | nx ρ1 => exact fun A' σ' H' e w1 env => ⟨A', S1, ρ1, w1, env, PostSX.shift p e w1⟩
    | rt v => exact p
    | bk ρ1 => exact p
    | ct ρ1 => exact p⟩
theorem sIfX {c : Expr} {ps qs : List Stmt} {gc : SB} (hc : PT X c (tB X.K gc)) (ha : PSs X ps (tSX X.K C E f)) (hb : PSs X qs (tSX X.K C E g)) (h0 : ∀ ρ S e S1, gc ρ S ≠ .exc e S1) : PS X (.If c ps qs pos) (tSX X.K C E (sIf gc f g)) := PSi (ps_if hc ha hb) fun D σ H ⟨A, S, ρ, w, env, p⟩ =>
  ⟨A, S, ρ, w, env, by
    change PostB X.K A H _ (gc ρ S)
    change PostSX X.K C A H D E (sIf gc f g ρ S) at p
    unfold sIf at p
    cases q : gc ρ S with
    | no => rw [q] at p; exact p
    | exc e S1 => exact (h0 _ _ _ _ q).elim
    | ok k S1 =>
      rw [q] at p
      intro H1 e1 w1
      change PostSX X.K C A H D E (if k = true then f ρ S1 else g ρ S1) at p
      cases k with
      | true => rw [if_pos rfl] at p ⊢; exact ⟨A, S1, ρ, w1, env.mono e1, PostSX.shift p e1 w1⟩
      | false => rw [if_neg Bool.false_ne_true] at p ⊢; exact ⟨A, S1, ρ, w1, env.mono e1, PostSX.shift p e1 w1⟩⟩
def bNx (f : SB) : SB := fun ρ S => match f ρ S with
  | .exc _ _ => .no
  | r => r
theorem bNx_ok {f : SB} {ρ : Envi} {S : Sto} {e : Exn} {S1 : Sto} : bNx f ρ S ≠ .exc e S1 := by
  unfold bNx
  cases f ρ S with
  | ok v S2 => exact fun z => by cases z
  | exc e S2 => exact fun z => by cases z
  | no => exact fun z => by cases z
theorem bLiftX {c : Expr} {gc : SB} (h : PT X c (tB X.K gc)) : PT X c (tB X.K (bNx gc)) := PTi h fun σ H Q ⟨A, S, ρ, w, env, p⟩ => ⟨A, S, ρ, w, env, by
  change PostB X.K A H _ (gc ρ S)
  change PostB X.K A H _ (bNx gc ρ S) at p
  unfold bNx at p
  cases q : gc ρ S with
  | ok v S1 => rw [q] at p; exact p
  | exc e S1 => rw [q] at p; exact p.elim
  | no => rw [q] at p; exact p.elim⟩
theorem sIfX' {c : Expr} {ps qs : List Stmt} {gc : SB} (hc : PT X c (tB X.K gc)) (ha : PSs X ps (tSX X.K C E f)) (hb : PSs X qs (tSX X.K C E g)) : PS X (.If c ps qs pos) (tSX X.K C E (sIf (bNx gc) f g)) :=
  sIfX (bLiftX hc) ha hb fun _ _ _ _ => bNx_ok
def iNx (f : SI) : SI := fun ρ S => match f ρ S with
  | .exc _ _ => .no
  | r => r
theorem chk_okX {A : Wd} {H : Hp} {D : Ends} {S : Sto} {s : Src} {r : Res Fw} (h : PostSX X.K C A H D E (chk S s r)) : GOk S s ∧ PostSX X.K C A H D E r := by
  unfold chk at h
  split at h
  · rename_i g; exact ⟨g, h⟩
  · exact h.elim
theorem sForX {tg iter : Expr} {body : List Stmt} {src : SI} {bd : Bnd} (hp : PassesOwn (model X.prog X.w) X.A X.env X.xe) (hc : X.calm = true) (hi : PI X tg iter (tI X.K src)) (hg : PG X tg (tG X.K bd)) (hb : PSs X body (tSX X.K C E f))
    (hs : ∀ x, foldedSetIterable iter X.env x = pure x := by intro _; rfl) : PS X (.For tg iter body [] pos) (tSX X.K C E (sFo (iNx src) bd f)) := PSi (ps_for hp hc hi hg hb hs) fun D σ H h => by
  obtain ⟨A, S, ρ, w, env, p⟩ := h
  refine ⟨A, S, ρ, w, env, ?_⟩
  change PostI X.K A H _ (src ρ S)
  change PostSX X.K C A H D E ((iNx src ρ S).bind fun s S1 => forGo s bd f s.items ρ S1) at p
  unfold iNx at p
  cases qs : src ρ S with
  | no => rw [qs] at p; exact p
  | exc e S1 => rw [qs] at p; exact p.elim
  | ok s S1 =>
  rw [qs] at p
  intro J B H1 e1 w1 sw b1
  have p1 : PostSX X.K C A H D E (forGo s bd f s.items ρ S1) := p
  refine ⟨fun i m σ H => i + m = s.items.length ∧ ∃ A S ρ, Wf X.K A S H ∧ REnv X.K A H ρ σ ∧ B A H ∧ PostSX X.K C A H D E (forGo s bd f (s.items.drop i) ρ S), ⟨s.items.length, by simp, A, S1, ρ, w1, env.mono e1, b1, PostSX.shift p1 e1 w1⟩, ?_⟩
  clear p p1
  rintro i m σ H ⟨him, A, S, ρ, w, env, b, p⟩
  by_cases hi : i < s.items.length
  · rw [List.drop_eq_getElem_cons hi] at p
    obtain ⟨g, p⟩ := chk_okX p
    refine .inr ⟨sw.goes i A S H hi w b g, fun σ' H' => ∃ A S ρ, Wf X.K A S H' ∧ REnv X.K A H' ρ σ' ∧ B A H' ∧ PostSX X.K C A H' D E (forGo s bd f (s.items.drop (i + 1)) ρ S), fun σ' H' h => ⟨m - 1, by omega, by omega, h⟩, fun x H' y => ?_⟩
    obtain ⟨d, hd, e2, w2, r2⟩ := sw.yields i A S H x H' hi w b g y
    rw [List.getElem?_eq_getElem hi] at hd
    cases hd
    split at p
    · rename_i ρ1 hρ
      refine ⟨A, ρ, _, ρ1, env.mono e2, r2, hρ, fun σ2 _ _ env2 => ⟨A, S, ρ1, w2, env2, ?_⟩⟩
      have p := PostSX.shift p e2 w2
      have b2 := sw.mono _ _ _ _ e2.kx b
      show PostSX X.K C A H' _ E (f ρ1 S)
      cases q : f ρ1 S with
      | no => rw [q] at p; exact p
      | exc e S2 => rw [q] at p; exact p
      | ok v S2 =>
        rw [q] at p
        cases v with
        | nx ρ2 => exact fun A' σ' H' e w3 env3 => ⟨A', S2, ρ2, w3, env3, sw.mono _ _ _ _ e.kx b2, PostSX.shift p e w3⟩
        | ct ρ2 => exact fun A' σ' H' e w3 env3 => ⟨A', S2, ρ2, w3, env3, sw.mono _ _ _ _ e.kx b2, PostSX.shift p e w3⟩
        | bk ρ2 => exact p
        | rt v => exact p
    · exact p.elim
  · have hn : i = s.items.length := by omega
    subst hn
    rw [List.drop_length] at p
    obtain ⟨g, p⟩ := chk_okX p
    exact .inl ⟨sw.stops A S H w b g, p A σ H .refl w env⟩
/-! ### raise NoDeed(n) -/
def rzOf (vs : List Val) (S : Sto) : Res Fw := match vs with
  | [.d (.int n)] => .exc (noD n) S
  | _ => .no
def xRaise (f : SA) : Ss := fun ρ S => match f ρ S with
  | .ok vs S1 => rzOf vs S1
  | _ => .no
theorem sRaiseX {CX : CXT} {k : Nat} {fd : FuncData} {e : Expr} {fa : SA} {pos2 : Pos} (hc : X.calm = true) (T : NoD X.K X.mg C fI B) (F1 : FnOk X.prog X.w X.K X.mg X.base CX k fI fd ["self", "number"] (spI C)) (hr : Room (k + 1) X.A) (hb : Binds X.K fd ["self", "number"] [])
    (hx : Passes CX X (fun _ _ _ => False)) (tk : Takes X (fun cls d _ H => E cls d H)) (hg : Gl X "NoDeed") (ha : PA X [e] (tAr X.K fa))
    (he : starEach (e :: []) X.env = (false, eval e X.env) :: starEach [] X.env := by rfl) (hpl : (backTo pos (starEach [] X.env)).any (·.1) = false := by rfl) :
    PS X (.Raise (some (.Call (.Name "NoDeed" p) [e] [] pos)) none pos2) (tSX X.K C E (xRaise fa)) :=
  PSi (ps_rz hc T F1 hr hb hx tk hg ha tAr_mono he hpl) fun D σ H ⟨A, S, ρ, w, env, q⟩ => by
    refine ⟨A, S, ρ, w, env, ?_⟩
    change PostA X.K A H _ (fa ρ S)
    change PostSX X.K C A H D E (xRaise fa ρ S) at q
    unfold xRaise at q
    cases h : fa ρ S with
    | no => rw [h] at q; exact q
    | exc e S1 => rw [h] at q; exact q.elim
    | ok vs S1 =>
      rw [h] at q
      intro xs H1 e1 w1 r1
      change PostSX X.K C A H D E (rzOf vs S1) at q
      unfold rzOf at q
      split at q
      · rename_i n
        obtain ⟨n', en, q⟩ := q
        have : n' = n := by
          unfold noD at en
          cases en
          rfl
        subst this
        cases r1 with
        | cons r1 r2 =>
          cases r2
          cases r1
          refine ⟨_, rfl, fun d hd => ?_⟩
          have e2 : Ext A H1 A (L2.upd H1 d (xdN n')) := Ext.laid hd
          have w2 : Wf X.K A S1 (L2.upd H1 d (xdN n')) := w1.laid hd
          refine q A d _ (e1.trans e2) ?_ (by rw [upd_same])
          rw [List.take_of_length_le (Nat.le_of_eq w2.len.symm)]
          exact w2
      · exact q.elim
end
/-! ### defs that may raise -/
structure FnX (P : Program) (w : World) (K : Frg) (mg : Str → Option Value) (base : Heap) (C : Addr) (k : Nat) (f : Addr) (fd : FuncData) (ps : List Str) (m : Fn) : Prop where
  arity : ∀ xs H Q E, spX K C m xs H Q E → xs.length = ps.length
  runs : ∀ (A : Around) (out : List PySem.Env) (s : Shared) (H : Hp) (ar : Args) (us : List Value) (xs : List V) (Q : VK) (E : XK),
    Room k A → A.guards = some [] → Env0 P w K mg base A out s H → BindsTo s fd ar (ps.zip us) → Vals xs us → spX K C m xs H Q E → codeAny (model P w) A (.call (.ref f) ar) (CR (L2.CX P w) out P w H s Q E) s
theorem FnX.up {P : Program} {w : World} {K : Frg} {mg : Str → Option Value} {base : Heap} {C : Addr} {j k : Nat} {f : Addr} {fd : FuncData} {ps : List Str} {m : Fn} (F : FnX P w K mg base C j f fd ps m) (le : j ≤ k) : FnX P w K mg base C k f fd ps m :=
  ⟨F.arity, fun A out s H ar us xs Q E room => F.runs A out s H ar us xs Q E (room.mono le)⟩
theorem fnX_of {P : Program} {w : World} {K : Frg} {mg : Str → Option Value} {base : Heap} {C : Addr} {x qual : Str} {st : Stmt} {f : Addr} {fd : FuncData} {N ps : List Str} {k : Nat} {m : Fn} (F : Fun K x qual st f fd) (Sc : FnScope N ps (defScope st))
    (ar0 : ∀ xs H Q E, spX K C m xs H Q E → xs.length = ps.length)
    (body : ∀ (cdv : Value) (A : Around) (out : List PySem.Env) (s : Shared) (H : Hp) (xs : List V) (Q : VK) (E : XK), Room k (A.deeper (envOfC qual (defScope st) s.heap.objs.size f cdv)) → A.guards = some [] → spX K C m xs H Q E →
      ∃ t, PSs (cxOf (L2.CX P w) P w K mg base N qual (defScope st) f cdv A out s H E) (defBody st) t ∧ t { nx := fun _ H' => Q .non H', rt := Q } (L2.start N xs) H) : FnX P w K mg base C (k + 1) f fd ps m := by
  obtain ⟨oc, od, kV, dc, pm, an, cdv, ct, osl, e_fd, found, code⟩ := F.ex
  subst e_fd
  constructor
  · exact ar0
  · intro A out s H ar us xs Q E room gd env0 bnd rel promise
    have arity := ar0 _ _ _ _ promise
    have inK : K.In s.heap := env0.mod.kin.keeps fun c v q => (env0.bs c v q).1
    have noLim : s.heap.NoLimit := env0.mod.nolimit.keeps fun c v q => (env0.bs c v q).1
    have kinds : ∀ z ∈ ps.zip us, (defScope st).names.lookup z.1 = some .local ∨ ((defScope st).names.lookup z.1 = some .cell ∧ ((cellsFrom (s.heap.objs.size + 1) (defScope st).names []).lookup z.1).isSome = true) := by
      rintro ⟨n, v⟩ hz
      rcases Sc.par n (List.of_mem_zip hz).1 with lo | ce
      · exact Or.inl lo
      · exact Or.inr ⟨ce, PySem.W.cellsFrom_some _ _ _ (Or.inl ce)⟩
    refine codeAny_call_function room.depth (inK _ _ found) rfl Sc.co Sc.gen rfl (PySem.W.codeRec_of inK code) (bnd _ _ _ _ (wpAny_newFunctionEnv_cells Sc.kind kinds fun env' e_env s' frame => ?_))
    subst e_env
    refine ⟨noLim.keeps frame.toInCall.keep, codeAny_func ?_⟩
    obtain ⟨t, walk, holds⟩ := body cdv A out s H xs Q E (room.deeper _) gd promise
    have inv0 : Inv (cxOf (L2.CX P w) P w K mg base N qual (defScope st) f cdv A out s H E) [] (L2.start N xs) H s' := inv_start Sc room.hd env0 arity rel frame
    refine wpAny_mono (walk.run [] s' (L2.start N xs) H _ inv0 holds) ?_ fun e s2 q => q
    intro fl s2 ends
    cases fl with
    | ret u =>
      obtain ⟨v, σ2, H2, inv2, rel2, q⟩ := ends
      exact ⟨v, H2, inv2.os, inv2.bare, inv2.base, inv2.hok, rel2, q⟩
    | next =>
      obtain ⟨σ2, H2, inv2, q⟩ := ends
      exact ⟨V.non, H2, inv2.os, inv2.bare, inv2.base, inv2.hok, rfl, q⟩
    | brk =>
      obtain ⟨_, _, _, q⟩ := ends
      exact q.elim
    | cont =>
      obtain ⟨_, _, _, q⟩ := ends
      exact q.elim
/-- where no exception comes it is a def as all others -/
theorem FnX.toG {P : Program} {w : World} {K : Frg} {mg : Str → Option Value} {base : Heap} {C : Addr} {k : Nat} {f : Addr} {fd : FuncData} {ps : List Str} {m : Fn} (F : FnX P w K mg base C k f fd ps m) : FnG P w K mg base k f fd ps (spF K m) := by
  have im : ∀ xs H Q, spF K m xs H Q (fun _ _ _ => False) → spX K C m xs H Q fun _ _ _ => False := fun xs H Q ⟨A, S, vs, w, r, p⟩ => ⟨A, S, vs, w, r, by
    cases h : m vs S with
    | ok v S1 => rw [h] at p; exact p
    | exc e S1 => rw [h] at p; exact p.elim
    | no => rw [h] at p; exact p.elim⟩
  refine ⟨fun xs H Q E h => F.arity xs H Q _ (im xs H Q h), fun A out s H ar us xs Q E room gd env0 bnd rel h => ?_⟩
  refine codeAny_mono (F.runs A out s H ar us xs Q _ room gd env0 bnd rel (im xs H Q h)) fun r s' q => ?_
  cases r with
  | error e =>
    obtain ⟨a, Bh, H', cls, d, _, _, _, _, _, _, _, z⟩ := q
    exact z.elim
  | ok fl => cases fl <;> exact q
/-- a def that may raise returns data alone -/
def onlyD (m : Fn) : Fn := fun vs S => match m vs S with
  | .ok (.d x) S1 => .ok (.d x) S1
  | .exc e S1 => .exc e S1
  | _ => .no
theorem fnX_ok {P : Program} {w : World} {K : Frg} {mg : Str → Option Value} {base : Heap} {C : Addr} {x qual : Str} {st : Stmt} {f : Addr} {fd : FuncData} {N ps : List Str} {k np : Nat} {body : Ss} (F : Fun K x qual st f fd) (S : FnScope N ps (defScope st)) (hnp : ps.length = np)
    (h : ∀ (cdv : Value) (A : Around) (outer : List PySem.Env) (s : Shared) (H : Hp) (E : XK), Room k (A.deeper (envOfC qual (defScope st) s.heap.objs.size f cdv)) → A.guards = some [] → PSs (cxOf (L2.CX P w) P w K mg base N qual (defScope st) f cdv A outer s H E) (defBody st) (tSX K C E body)) :
    FnX P w K mg base C (k + 1) f fd ps (onlyD (mkFn np N.length body)) := by
  refine fnX_of F S (fun xs H Q E h => ?_) (fun cdv A outer s H xs Q E hr gd hp => ⟨_, h cdv A outer s H E hr gd, ?_⟩)
  · obtain ⟨A, S, vs, _, r, p⟩ := h
    unfold onlyD mkFn at p
    by_cases hl : vs.length = np
    · rw [Paired.length r, hl, hnp]
    · rw [if_neg hl] at p
      exact p.elim
  · obtain ⟨A, St, vs, w, r, p⟩ := hp
    unfold onlyD mkFn at p
    by_cases hl : vs.length = np
    case neg => rw [if_neg hl] at p; exact p.elim
    rw [if_pos hl] at p
    have hxl : xs.length = np := (Paired.length r).trans hl
    show tSX K C E body _ (L2.start N xs) H
    refine ⟨A, St, vs.map some ++ List.replicate (N.length - np) none, w, ?_, ?_⟩
    · refine ⟨by simp [L2.start, hxl, hl], fun i v hi => ?_⟩
      by_cases c : i < vs.length
      · rw [List.getElem?_append_left (by rw [List.length_map]; exact c), List.getElem?_map, List.getElem?_eq_getElem c] at hi
        simp at hi
        subst hi
        have z : ∀ {xs : List V} {vs : List Val} {i : Nat} (c : i < vs.length), RvL K A H xs vs → ∃ x, xs[i]? = some x ∧ Rv K A H x vs[i] := by
          intro xs vs i c r
          induction r generalizing i with
          | nil => simp at c
          | cons h t ih =>
            cases i with
            | zero => exact ⟨_, rfl, h⟩
            | succ i => exact ih (i := i) (by simpa using c)
        obtain ⟨y, h1, h2⟩ := z c r
        refine ⟨y, ?_, h2⟩
        unfold L2.start
        rw [List.getElem?_append_left (by rw [List.length_map, hxl, ← hl]; exact c), List.getElem?_map, h1]; rfl
      · rw [List.getElem?_append_right (by rw [List.length_map]; omega)] at hi
        have := List.mem_of_getElem? hi
        simp at this
    · show PostSX K C A H { nx := fun _ H' => Q .non H', rt := Q } E (body (vs.map some ++ List.replicate (N.length - np) none) St)
      generalize hr : body (vs.map some ++ List.replicate (N.length - np) none) St = r at p ⊢
      cases r with
      | no => exact p.elim
      | exc e S1 => exact p
      | ok v S1 =>
        have hsl : ∀ {A' H'}, Ext A H A' H' → Wf K A' S1 H' → Wf K A (S1.take St.length) H' := fun e w1 => by
          rw [← w.len]; exact w1.less e
        cases v with
        | nx ρ1 => exact fun A' σ' H' e w1 _ => p .non H' (Ext.less (B := []) e) (hsl e w1) .non
        | bk ρ1 => exact p.elim
        | ct ρ1 => exact p.elim
        | rt v =>
          have lessV : ∀ {A' : Wd} {H' : Hp}, Ext A H A' H' → ∀ b, b ∈ A.V → b ∈ A'.V := fun {A' H'} e b m => by
            rw [Wd.mem] at m ⊢
            obtain ⟨B, h1⟩ := e.pre
            rw [e.pr, h1]
            exact m.imp id fun m => List.mem_append_left _ m
          cases v with
          | d x => exact fun A' v H' e w1 r => p v H' (Ext.less (B := []) e) (hsl e w1) (r.mono (kp_less (lessV e)))
          | z ds => exact p.elim
          | x => exact p.elim
          | g cs i => exact p.elim
          | f k =>
            have q : out St.length S1 (.f k) = .ok (.f k) (S1.take St.length) ∨ ∃ a b c, out St.length S1 (.f k) = .ok (.g a b) c := by
              by_cases c : k.lt St.length = true
              · exact .inl (if_pos c)
              · exact .inr ⟨_, _, _, if_neg c⟩
            exfalso
            change PostX K C A H Q E (match out St.length S1 (.f k) with | .ok (.d x) S1 => .ok (.d x) S1 | .exc e S1 => .exc e S1 | _ => .no) at p
            rcases q with q | ⟨a, b, c, q⟩ <;> rw [q] at p <;> exact p
          | c j =>
            exfalso
            change PostX K C A H Q E (match out St.length S1 (.c j) with | .ok (.d x) S1 => .ok (.d x) S1 | .exc e S1 => .exc e S1 | _ => .no) at p
            have q : out St.length S1 (.c j) = .no ∨ ∃ a b, out St.length S1 (.c j) = .ok a b ∧ ∀ x, a ≠ .d x := by
              by_cases c : j < St.length
              · exact .inr ⟨.c j, _, if_pos c, fun x z => by cases z⟩
              · cases h : S1[j]? with
                | none =>
                  refine .inl ?_
                  show (if j < St.length then _ else match S1[j]? with | some k => _ | none => _) = _
                  rw [if_neg c, h]
                | some k =>
                  by_cases c2 : k.lt St.length = true
                  · refine .inr ⟨.f k, S1.take St.length, ?_, fun x z => by cases z⟩
                    show (if j < St.length then _ else match S1[j]? with | some k => _ | none => _) = _
                    rw [if_neg c, h]
                    exact if_pos c2
                  · refine .inr ⟨.g (S1.drop St.length) (j - St.length), S1.take St.length, ?_, fun x z => by cases z⟩
                    show (if j < St.length then _ else match S1[j]? with | some k => _ | none => _) = _
                    rw [if_neg c, h]
                    exact if_neg c2
            rcases q with q | ⟨a, b, q, nd⟩
            · rw [q] at p
              exact p
            · rw [q] at p
              cases a with
              | d x => exact nd x rfl
              | _ => exact p
theorem bind_okE {α β : Type} {a : α} {S : Sto} {g : α → Sto → Res β} : Res.bind (.ok a S) g = g a S := rfl
section
variable {mg : Str → Option Value} {X : Cx} {C fI B : Addr} {p pos pos' : Pos} {x y : Str} {e : Expr} {es : List Expr} {k i : Nat} {fa : Addr} {fd : FuncData} {ps : List Str} {m : Fn} {t : TA} {f : SA}
theorem runX {pins : List (Addr × Obj)} {σ : L2.St} {H : Hp} {Q : VK} {s : Shared} {us : List Value} {xs : List V} {E : XK} (F : FnX X.prog X.w X.K X.mg X.base C k fa fd ps m) (room : Room k X.A) (gd : X.A.guards = some []) (hb : Binds X.K fd ps []) (hx : PassesAt (L2.CX X.prog X.w) X σ E) (I : Inv X pins σ H s) (r : Vals xs us) (h : spX X.K C m xs H Q E) :
    wpAny (model X.prog X.w) X.A (call (.ref fa) us) (EP X pins σ Q) X.xe s := by
  have n : us.length = ps.length := r.length.symm.trans (F.arity _ _ _ _ h)
  have b := hb s us I.kIn (by rw [List.append_nil]; exact n)
  rw [List.append_nil] at b
  refine wpAny_call (codeAny_mono (F.runs X.A X.stack s H ⟨us, []⟩ us xs Q E room gd I.env0 b r h) ?_)
  intro res s2 q
  match res, q with
  | .ok (.ret u), q => exact I.after q
  | .ok .next, q => exact q.elim
  | .ok .brk, q => exact q.elim
  | .ok .cont, q => exact q.elim
  | .error e, q => exact hx pins H s e s2 I q
def tCX (K : Frg) (C : Addr) (m : Fn) (E : L2.St → XK) (t : TA) : TE := fun σ H Q => t σ H fun xs H1 => spX K C m xs H1 Q (E σ)
theorem peX {E : L2.St → XK} (F : FnX X.prog X.w X.K X.mg X.base C k fa fd ps m) (room : Room k X.A) (gd : X.A.guards = some []) (hg : Gl X x) (hm : X.mg x = some (.ref fa)) (hk : PySem.W.keepIn X.K (.ref fa) = true) (hb : Binds X.K fd ps [])
    (hx : ∀ σ, PassesAt (L2.CX X.prog X.w) X σ (E σ)) (ha : PA X (e :: es) t) (hdb : (x == ("__debug__" : Str)) = false := by decide) (he : starEach (e :: es) X.env = (false, eval e X.env) :: starEach es X.env := by rfl) (hpl : (backTo pos (starEach es X.env)).any (·.1) = false := by rfl) :
    PE X (.Call (.Name x p) (e :: es) [] pos) (tCX X.K C m E t) := by
  constructor
  intro pins s σ H Q I h
  refine wpAny_Call_Name_kw (ld_glob I hg hm (PySem.W.callWith_K (h₀ := X.base) I.ok.mod.kin hk (thn (ha.run pos pins s σ H _ I h) ?_) he hpl) hdb)
  rintro us s2 ⟨xs, H2, I2, r, q⟩
  exact ⟨I2.kIn, runX F room gd hb (hx σ) I2 r q⟩
/-- a call's arguments, then it -/
theorem onlyD_d {m : Fn} {vs : List Val} {S S2 : Sto} {v : Val} (h : onlyD m vs S = .ok v S2) : ∃ x, v = .d x := by
  unfold onlyD at h
  split at h
  · cases h; exact ⟨_, rfl⟩
  · cases h
  · cases h
theorem callX_ok {K : Frg} {A : Wd} {H : Hp} {D : Ends} {E : XK} {S : Sto} {ρ : Envi} {Q : VK} {g : Val → Sto → Res Fw} (p : PostSX K C A H D E ((f ρ S).bind fun vs S1 => (onlyD m vs S1).bind g)) (h0 : ∀ e S1, f ρ S ≠ .exc e S1)
    (hg : ∀ x S2 H2 y, Ext A H A H2 → Wf K A S2 H2 → Rp K A.V H2 y x → PostSX K C A H2 D E (g (.d x) S2) → Q y H2) : PostA K A H (fun xs H1 => spX K C (onlyD m) xs H1 Q E) (f ρ S) := by
  cases q : f ρ S with
  | no => rw [q] at p; exact p
  | exc e S1 => exact (h0 _ _ q).elim
  | ok vs S1 =>
    rw [q] at p
    intro xs H1 e1 w1 r1
    have p1 : PostSX K C A H D E ((onlyD m vs S1).bind g) := p
    refine ⟨A, S1, vs, w1, r1, ?_⟩
    cases q2 : onlyD m vs S1 with
    | no => rw [q2] at p1; exact p1.elim
    | exc e2 S2 => rw [q2] at p1; exact ExP.shift (S := S2) p1 e1
    | ok v S2 =>
      rw [q2] at p1
      have p2 : PostSX K C A H D E (g v S2) := p1
      obtain ⟨z, rfl⟩ := onlyD_d q2
      exact fun y H2 e2 w2 r2 => hg z S2 H2 y (e1.trans e2) w2 r2 (PostSX.shift p2 (e1.trans e2) w2)
def aNx (f : SA) : SA := fun ρ S => match f ρ S with
  | .exc _ _ => .no
  | r => r
theorem aNx_ok {ρ : Envi} {S : Sto} (e : Exn) (S1 : Sto) : aNx f ρ S ≠ .exc e S1 := by
  unfold aNx
  cases f ρ S with
  | ok v S2 => exact fun z => by cases z
  | exc e S2 => exact fun z => by cases z
  | no => exact fun z => by cases z
theorem aLiftX (h : PA X es (tAr X.K f)) : PA X es (tAr X.K (aNx f)) := PAi h fun σ H Q ⟨A, S, ρ, w, env, p⟩ => ⟨A, S, ρ, w, env, by
  change PostA X.K A H _ (f ρ S)
  change PostA X.K A H _ (aNx f ρ S) at p
  unfold aNx at p
  cases q : f ρ S with
  | ok v S1 => rw [q] at p; exact p
  | exc e S1 => rw [q] at p; exact p.elim
  | no => rw [q] at p; exact p.elim⟩
theorem sRetX {E : XK} (F : FnX X.prog X.w X.K X.mg X.base C k fa fd ps (onlyD m)) (room : Room k X.A) (gd : X.A.guards = some []) (hg : Gl X x) (hm : X.mg x = some (.ref fa)) (hk : PySem.W.keepIn X.K (.ref fa) = true) (hb : Binds X.K fd ps [])
    (tk : Takes X (fun cls d _ H => E cls d H)) (ha : PA X (e :: es) (tAr X.K f)) (hdb : (x == ("__debug__" : Str)) = false := by decide) (he : starEach (e :: es) X.env = (false, eval e X.env) :: starEach es X.env := by rfl) (hpl : (backTo pos (starEach es X.env)).any (·.1) = false := by rfl) :
    PS X (.Return (some (.Call (.Name x p) (e :: es) [] pos)) pos') (tSX X.K C E (sRt (evCall (onlyD m) (aNx f)))) :=
  PSi (ps_ret (peX (E := fun _ => E) F room gd hg hm hk hb (fun σ => passAt (W := fun cls d _ H => E cls d H) tk σ) (aLiftX ha) hdb he hpl)) fun D σ H ⟨A, S, ρ, w, env, q⟩ => by
    refine ⟨A, S, ρ, w, env, ?_⟩
    change PostA X.K A H _ (aNx f ρ S)
    change PostSX X.K C A H D E (((aNx f ρ S).bind (onlyD m)).bind fun v S1 => .ok (.rt v) S1) at q
    have q' : PostSX X.K C A H D E ((aNx f ρ S).bind fun vs S1 => (onlyD m vs S1).bind fun v S1 => .ok (.rt v) S1) := by
      cases h : aNx f ρ S <;> rw [h] at q <;> exact q
    exact callX_ok q' aNx_ok fun z S2 H2 y e2 w2 r2 p2 => (show PostR X.K A S2 H2 D.rt (.d z) from p2) A y H2 .refl w2 r2
theorem sSetX {E : XK} (hN : X.N.Nodup) (hi : X.N[i]? = some y) (hy : Loc X.env.scope y) (F : FnX X.prog X.w X.K X.mg X.base C k fa fd ps (onlyD m)) (room : Room k X.A) (gd : X.A.guards = some []) (hg : Gl X x) (hm : X.mg x = some (.ref fa)) (hk : PySem.W.keepIn X.K (.ref fa) = true) (hb : Binds X.K fd ps [])
    (tk : Takes X (fun cls d _ H => E cls d H)) (ha : PA X (e :: es) (tAr X.K f)) (hdb : (x == ("__debug__" : Str)) = false := by decide) (he : starEach (e :: es) X.env = (false, eval e X.env) :: starEach es X.env := by rfl) (hpl : (backTo pos (starEach es X.env)).any (·.1) = false := by rfl)
    (hf : X.fn y = true ∨ X.env.scope.names.lookup y = some .local := by first | exact .inl rfl | exact .inr rfl | assumption) {pos2 : Pos}
    (hs : swapsWith (.Call (.Name x p) (e :: es) [] pos) (some (.Name y pos')) pos2.line X.env = pure false := by rfl) :
    PS X (.Assign [.Name y pos'] (.Call (.Name x p) (e :: es) [] pos) pos2) (tSX X.K C E (sSet i (evCall (onlyD m) (aNx f)))) :=
  PSi (ps_set hN hi hy (peX (E := fun _ => E) F room gd hg hm hk hb (fun σ => passAt (W := fun cls d _ H => E cls d H) tk σ) (aLiftX ha) hdb he hpl) hs hf) fun D σ H ⟨A, S, ρ, w, env, q⟩ => by
    refine ⟨A, S, ρ, w, env, ?_⟩
    change PostA X.K A H _ (aNx f ρ S)
    change PostSX X.K C A H D E (((aNx f ρ S).bind (onlyD m)).bind fun v S1 => .ok (.nx (ρ.set i (some v.th))) S1) at q
    have q' : PostSX X.K C A H D E ((aNx f ρ S).bind fun vs S1 => (onlyD m vs S1).bind fun v S1 => .ok (.nx (ρ.set i (some v.th))) S1) := by
      cases h : aNx f ρ S <;> rw [h] at q <;> exact q
    exact callX_ok q' aNx_ok fun z S2 H2 y e2 w2 r2 p2 => (show ∀ A' σ' H', Ext A H2 A' H' → Wf X.K A' S2 H' → REnv X.K A' H' (ρ.set i (some (.d z))) σ' → D.nx σ' H' from p2) A _ H2 .refl w2 ((env.mono e2).set (v := .d z) r2)
/-! ### try: .. except NoDeed as e: n = e.number -/
/-- e.number, e the exception that the suite holds -/
def tNum (C a : Addr) (cls : Value) (d : Option Addr) (te : TE) : TE := fun σ H Q => te σ H fun x H1 => x = .ref a ∧ cls = .ref C ∧ ∃ (dd : Addr) (n : Int), d = some dd ∧ H1 dd = some (xdN n) ∧ Q (.int n) H1
theorem pe_num {a : Addr} {oe : Obj} {cls : Value} {d : Option Addr} {pn : List (Addr × Obj)} {te : TE} (T : NoD X.K X.mg C fI B) (hz : Zc cls d oe) (hf : ∃ vs, oe.data = .fields vs) (he : PE (X.suite a ((a, oe) :: pn)) e te)
    (hb : attributeBase e "number" X.env (eval e X.env) = eval e X.env := by rfl) :
    PE (X.suite a ((a, oe) :: pn)) (.Attribute e "number" pos) (tNum C a cls d te) := by
  refine ⟨fun pins s σ H Q I h => ?_⟩
  refine attr_of hb (thn (he.run pins s σ H _ I h) fun u s1 hh => ?_)
  obtain ⟨x, H1, I1, rx, ex, ec, dd, n, ed, ea, q⟩ := hh
  subst ex
  obtain rfl : u = Value.ref a := rx
  subst ec
  subst ed
  obtain ⟨ha, _⟩ := I1.pin (a, oe) (List.mem_append_left _ List.mem_cons_self)
  obtain ⟨vs, hd⟩ := hf
  have hx : ObjOk X.prog X.w H1 s1.heap dd (xdN n) := I1.hok dd _ ea
  obtain ⟨mA, hns, hr⟩ := hx
  obtain ⟨od, ho, hl⟩ := lookIn_ns hns
  have l : List.lookup ("number" : Str) [(("number" : Str), V.int n)] = some (V.int n) := by simp [List.lookup]
  obtain ⟨u, hu, ru⟩ := RelO.some_of (v := .int n) (o := mA "number") (by rw [← l]; exact hr "number")
  have J : PySem.W.InstAt s1.heap a oe C (some od) := ⟨ha, hz.1, by unfold PySem.W.notCls; rw [hd] <;> rfl, by rw [hz.2]; exact ho⟩
  exact HandSPX.exc_get I1.kIn J T.ga T.gg T.T.exC (PySem.W.findObj_own T.hd T.no rfl (by rw [hl, hu])) (handed_of ru) ⟨.int n, H1, I1.tok _, ru, q⟩
def numOf (e : Exn) : Option Int := match e.fs with
  | [(f, .int n)] => if e.name = "NoDeed" ∧ f = "number" then some n else none
  | _ => none
theorem numOf_ok {e : Exn} {n : Int} (h : numOf e = some n) : e = noD n := by
  obtain ⟨nm, fs⟩ := e
  unfold numOf at h
  dsimp only at h
  split at h
  · split at h
    · rename_i c
      cases h
      obtain ⟨rfl, rfl⟩ := c
      rfl
    · cases h
  · cases h
def sTryN (i : Option Nat) (ie j : Nat) (m : Fn) (f : SA) : Ss := fun ρ S => if ρ.length ≤ ie then .no else (f ρ S).bind fun vs S1 => match m vs S1 with
  | .ok v S2 => .ok (.nx (match i with | some i => ρ.set i (some v.th) | none => ρ)) S2
  | .exc e S2 => match numOf e with
    | some n => .ok (.nx ((ρ.set j (some (.d (.int n)))).set ie none)) (S2.take S1.length)
    | none => .no
  | .no => .no
theorem REnv.catch {K : Frg} {W : Wd} {H : Hp} {ρ : Envi} {σ : L2.St} (env : REnv K W H ρ σ) {ie j : Nat} {a : Addr} {n : Int} : REnv K W H ((ρ.set j (some (.d (.int n)))).set ie none) (((σ.set ie (some (.ref a))).set j (some (.int n))).set ie none) := by
  refine ⟨by simp [env.len], fun k v h => ?_⟩
  by_cases e : k = ie
  · subst e
    by_cases c : k < ρ.length
    · rw [List.getElem?_set_self (by simpa using c)] at h
      cases h
    · rw [List.getElem?_eq_none (by simp; omega)] at h
      cases h
  · rw [List.getElem?_set_ne (Ne.symm e)] at h ⊢
    by_cases e2 : k = j
    · subst e2
      have hl : k < ρ.length := by
        have := (List.getElem?_eq_some_iff.mp h).1
        simpa using this
      rw [List.getElem?_set_self hl] at h
      cases h
      exact ⟨.int n, by rw [List.getElem?_set_self (by rw [List.length_set, env.len]; exact hl)], .int n⟩
    · rw [List.getElem?_set_ne (Ne.symm e2)] at h ⊢
      rw [List.getElem?_set_ne (Ne.symm e)]
      exact env.get k v h
/-- the reading of it, whatever becomes of the value -/
theorem tryN_ok {K : Frg} {T : NoD K mg C fI B} {A : Wd} {S : Sto} {H : Hp} {ρ : Envi} {σ : L2.St} {D : Ends} {i : Option Nat} {ie j : Nat} {g : V → L2.St → L2.St} {f : SA} {m : Fn} {Wout : WX} (w : Wf K A S H) (env : REnv K A H ρ σ)
    (hg : ∀ z y H', Rp K A.V H' y z → REnv K A H' ρ σ → REnv K A H' (match i with | some i => ρ.set i (some (.d z)) | none => ρ) (g y σ))
    (p : PostS K A H D (sTryN i ie j (onlyD m) f ρ S)) (h0 : ∀ e S1, f ρ S ≠ .exc e S1) :
    PostA K A H (fun xs H1 => spX K C (onlyD m) xs H1 (fun y H2 => D.nx (g y σ) H2) (WE (wAs K (.ref C) ie (fun a cls d => tAsg (tNum C a cls d (tVar ie)) (gName j)) Wout D) σ)) (f ρ S) := by
  unfold sTryN at p
  split at p
  · exact p.elim
  rename_i hie
  have hie : ie < σ.length := by rw [env.len]; omega
  cases q : f ρ S with
  | no => rw [q] at p; exact p
  | exc e S1 => exact (h0 _ _ q).elim
  | ok vs S1 =>
    rw [q] at p
    intro xs H1 e1 w1 r1
    refine ⟨A, S1, vs, w1, r1, ?_⟩
    cases q2 : onlyD m vs S1 with
    | no => rw [bind_okE, q2] at p; exact p.elim
    | exc e2 S2 =>
      rw [bind_okE, q2] at p
      dsimp only at p
      cases q3 : numOf e2 with
      | none => rw [q3] at p; exact p.elim
      | some n =>
        rw [q3] at p
        refine ⟨n, numOf_ok q3, fun A' d H' e' w' hd => ⟨true, T.te, fun _ a ha => ?_, fun z => by cases z⟩⟩
        refine ⟨.ref a, by rw [List.getElem?_set_self hie], rfl, rfl, d, n, rfl, hd, ?_⟩
        have w2 := w'.less e'
        have hle : A.A.length ≤ A'.A.length := by obtain ⟨Z, h1⟩ := e'.pre; rw [h1]; simp
        rw [List.take_take, Nat.min_eq_left hle, w1.len] at w2
        have e2 : Ext A H A H' := e1.trans (Ext.less (B := []) e')
        exact (show ∀ A' σ' H', Ext A H A' H' → Wf K A' (S2.take S1.length) H' → REnv K A' H' ((ρ.set j (some (.d (.int n)))).set ie none) σ' → D.nx σ' H' from p) A _ H' e2 w2 (env.mono e2).catch
    | ok v S2 =>
      rw [bind_okE, q2] at p
      obtain ⟨z, rfl⟩ := onlyD_d q2
      intro y H2 e2 w2 r2
      exact (show ∀ A' σ' H', Ext A H A' H' → Wf K A' S2 H' → REnv K A' H' (match i with | some i => ρ.set i (some (.d z)) | none => ρ) σ' → D.nx σ' H' from p) A _ H2 (e1.trans e2) w2 (hg z y H2 r2 (env.mono (e1.trans e2)))
theorem sTryR {i ie j : Nat} {z n : Str} {np p1 p2 p3 p4 p5 p6 p7 : Pos} (hsk : X.stack = X.env :: X.outer) (hfr : X.env.frame = some X.env.locals) (hN : X.N.Nodup) (hi : X.N[i]? = some y) (hy : Loc X.env.scope y) (hie : X.N[ie]? = some n) (hln : X.env.kindOf n = some .local) (hj : X.N[j]? = some z) (hz : Loc X.env.scope z)
    (T : NoD X.K X.mg C fI B) (hgc : Gl X "NoDeed") (F : FnX X.prog X.w X.K X.mg X.base C k fa fd ps (onlyD m)) (room : Room k X.A) (gd : X.A.guards = some []) (hg : Gl X x) (hm : X.mg x = some (.ref fa)) (hk : PySem.W.keepIn X.K (.ref fa) = true) (hb : Binds X.K fd ps [])
    (ha : ∀ (pn : List (Addr × Obj)) (xe : Value → Shared → Prop), PA (X.tr pn xe) (e :: es) (tAr X.K f))
    (hdb : (x == ("__debug__" : Str)) = false := by decide) (he : starEach (e :: es) X.env = (false, eval e X.env) :: starEach es X.env := by rfl) (hpl : (backTo pos (starEach es X.env)).any (·.1) = false := by rfl)
    (hs : swapsWith (.Call (.Name x p) (e :: es) [] pos) (some (.Name y p1)) p2.line X.env = pure false := by rfl)
    (hf : X.fn y = true ∨ X.env.scope.names.lookup y = some .local := by first | exact .inl rfl | exact .inr rfl | assumption)
    (hf2 : X.fn z = true ∨ X.env.scope.names.lookup z = some .local := by first | exact .inl rfl | exact .inr rfl | assumption)
    (hv : Vis X.env.scope n := by first | exact .inl rfl | exact .inr rfl) (hn1 : (n == ("__debug__" : Str)) = false := by decide) (hn2 : (n == ("__classdict__" : Str)) = false := by decide)
    (hs2 : swapsWith (.Attribute (.Name n p3) "number" p4) (some (.Name z p5)) p6.line X.env = pure false := by rfl)
    (hb2 : attributeBase (.Name n p3) "number" X.env (eval (.Name n p3) X.env) = eval (.Name n p3) X.env := by rfl) :
    PS X (.Try [.Assign [.Name y p1] (.Call (.Name x p) (e :: es) [] pos) p2] [.ExceptHandler (some (.Name "NoDeed" np)) (some n) [.Assign [.Name z p5] (.Attribute (.Name n p3) "number" p4) p6] p7] [] [] pos')
      (tS X.K (sTryN (some i) ie j (onlyD m) (aNx f))) :=
  PSi (ps_try_as (i := ie) (c := .ref C) (Wout := fun _ _ _ _ => False) (tb := fun W => tAsg (tCX X.K C (onlyD m) (WE W) (tAr X.K (aNx f))) (gName i)) (ts := fun a cls d => tAsg (tNum C a cls d (tVar ie)) (gName j)) hsk hfr hN hie hln ⟨hgc, by decide, .inl T.gC⟩ takes0
    (fun W pn xe tk _ => pss_one (ps_set (X := X.tr pn xe) hN hi hy (peX (X := X.tr pn xe) (E := WE W) F room gd hg hm hk hb (fun σ => passAt tk σ) (aLiftX (X := X.tr pn xe) (ha pn xe)) hdb he hpl) hs hf))
    (fun a oe cls d pn hzc hff => pss_one (ps_set (X := X.suite a ((a, oe) :: pn)) hN hj hz (pe_num (X := X) T hzc hff (pe_var (X := X.suite a ((a, oe) :: pn)) hie hv hn1 hn2) hb2) hs2 hf2))) fun D σ H ⟨A, S, ρ, w, env, q⟩ => by
    refine ⟨A, S, ρ, w, env, ?_⟩
    exact tryN_ok (T := T) (i := some i) (g := fun y σ => σ.set i (some y)) w env (fun z y H' r en => en.set (v := .d z) r) q aNx_ok
theorem sTryE {ie j : Nat} {z n : Str} {np p2 p3 p4 p5 p6 p7 : Pos} (hsk : X.stack = X.env :: X.outer) (hfr : X.env.frame = some X.env.locals) (hN : X.N.Nodup) (hie : X.N[ie]? = some n) (hln : X.env.kindOf n = some .local) (hj : X.N[j]? = some z) (hz : Loc X.env.scope z)
    (T : NoD X.K X.mg C fI B) (hgc : Gl X "NoDeed") (F : FnX X.prog X.w X.K X.mg X.base C k fa fd ps (onlyD m)) (room : Room k X.A) (gd : X.A.guards = some []) (hg : Gl X x) (hm : X.mg x = some (.ref fa)) (hk : PySem.W.keepIn X.K (.ref fa) = true) (hb : Binds X.K fd ps [])
    (ha : ∀ (pn : List (Addr × Obj)) (xe : Value → Shared → Prop), PA (X.tr pn xe) (e :: es) (tAr X.K f))
    (hdb : (x == ("__debug__" : Str)) = false := by decide) (he : starEach (e :: es) X.env = (false, eval e X.env) :: starEach es X.env := by rfl) (hpl : (backTo pos (starEach es X.env)).any (·.1) = false := by rfl)
    (hs : swapsWith (.Call (.Name x p) (e :: es) [] pos) none p2.line X.env = pure false := by rfl)
    (hf2 : X.fn z = true ∨ X.env.scope.names.lookup z = some .local := by first | exact .inl rfl | exact .inr rfl | assumption)
    (hv : Vis X.env.scope n := by first | exact .inl rfl | exact .inr rfl) (hn1 : (n == ("__debug__" : Str)) = false := by decide) (hn2 : (n == ("__classdict__" : Str)) = false := by decide)
    (hs2 : swapsWith (.Attribute (.Name n p3) "number" p4) (some (.Name z p5)) p6.line X.env = pure false := by rfl)
    (hb2 : attributeBase (.Name n p3) "number" X.env (eval (.Name n p3) X.env) = eval (.Name n p3) X.env := by rfl) :
    PS X (.Try [.Expr (.Call (.Name x p) (e :: es) [] pos) p2] [.ExceptHandler (some (.Name "NoDeed" np)) (some n) [.Assign [.Name z p5] (.Attribute (.Name n p3) "number" p4) p6] p7] [] [] pos')
      (tS X.K (sTryN none ie j (onlyD m) (aNx f))) :=
  PSi (ps_try_as (i := ie) (c := .ref C) (Wout := fun _ _ _ _ => False) (tb := fun W => tDrop (tCX X.K C (onlyD m) (WE W) (tAr X.K (aNx f)))) (ts := fun a cls d => tAsg (tNum C a cls d (tVar ie)) (gName j)) hsk hfr hN hie hln ⟨hgc, by decide, .inl T.gC⟩ takes0
    (fun W pn xe tk _ => pss_one (ps_expr (X := X.tr pn xe) (peX (X := X.tr pn xe) (E := WE W) F room gd hg hm hk hb (fun σ => passAt tk σ) (aLiftX (X := X.tr pn xe) (ha pn xe)) hdb he hpl) hs))
    (fun a oe cls d pn hzc hff => pss_one (ps_set (X := X.suite a ((a, oe) :: pn)) hN hj hz (pe_num (X := X) T hzc hff (pe_var (X := X.suite a ((a, oe) :: pn)) hie hv hn1 hn2) hb2) hs2 hf2))) fun D σ H ⟨A, S, ρ, w, env, q⟩ => by
    refine ⟨A, S, ρ, w, env, ?_⟩
    exact tryN_ok (T := T) (i := none) (g := fun _ σ => σ) w env (fun z y H' r en => en) q aNx_ok
end
/-! ### as the derivations use them -/
structure RzF (P : Program) (w : World) (K : Frg) (mg : Str → Option Value) (base : Heap) (C fI B : Addr) : Prop where
  no : NoD K mg C fI B
  f1 : ∃ fd, FnOk P w K mg base CX0 1 fI fd ["self", "number"] (spI C) ∧ Binds K fd ["self", "number"] []
structure CalX (P : Program) (w : World) (K : Frg) (mg : Str → Option Value) (base : Heap) (C : Addr) (k : Nat) (x : Str) (m : Fn) : Prop where
  ex : ∃ (f : Addr) (fd : FuncData) (ps : List Str), FnX P w K mg base C k f fd ps (onlyD m) ∧ mg x = some (.ref f) ∧ PySem.W.keepIn K (.ref f) = true ∧ Binds K fd ps []
theorem CalX.toCal {P : Program} {w : World} {K : Frg} {mg : Str → Option Value} {base : Heap} {C : Addr} {k : Nat} {x : Str} {m : Fn} (c : CalX P w K mg base C k x m) : Cal P w K mg base k x (onlyD m) := by
  obtain ⟨f, fd, ps, F, r⟩ := c.ex
  exact ⟨f, fd, ps, F.toG, r⟩
theorem calX_mk {P : Program} {w : World} {K : Frg} {mg : Str → Option Value} {base : Heap} {C : Addr} {x qual : Str} {st : Stmt} {fa : Addr} {fd : FuncData} {N ps : List Str} {k np : Nat} {body : Ss} (F : Fun K x qual st fa fd) (S : FnScope N ps (defScope st)) (hnp : ps.length = np) (hm : mg x = some (.ref fa)) (hb : Binds K fd ps [])
    (h : ∀ (cdv : Value) (A : Around) (outer : List PySem.Env) (s : Shared) (H : Hp) (E : XK), Room k (A.deeper (envOfC qual (defScope st) s.heap.objs.size fa cdv)) → A.guards = some [] → PSs (cxOf (L2.CX P w) P w K mg base N qual (defScope st) fa cdv A outer s H E) (defBody st) (tSX K C E body)) :
    CalX P w K mg base C (k + 1) x (mkFn np N.length body) := ⟨fa, fd, ps, fnX_ok F S hnp h, hm, F.kp, hb⟩
section
variable {X : Cx} {C fI B : Addr} {E : XK} {p pos pos' : Pos} {x y : Str} {e : Expr} {es : List Expr} {k j i : Nat} {m : Fn} {f : SA}
theorem dRaise {fa : SA} {pos2 : Pos} (hc : X.calm = true) (R : RzF X.prog X.w X.K X.mg X.base C fI B) (hr : Room j X.A) (hj : 2 ≤ j) (tk : Takes X (fun cls d _ H => E cls d H)) (hg : Gl X "NoDeed") (ha : PA X [e] (tAr X.K fa))
    (he : starEach (e :: []) X.env = (false, eval e X.env) :: starEach [] X.env := by rfl) (hpl : (backTo pos (starEach [] X.env)).any (·.1) = false := by rfl) :
    PS X (.Raise (some (.Call (.Name "NoDeed" p) [e] [] pos)) none pos2) (tSX X.K C E (xRaise fa)) := by
  obtain ⟨fd, F, b⟩ := R.f1
  exact sRaiseX hc R.no F (hr.mono hj) b (fun _ _ _ _ _ _ _ h => h.elim) tk hg ha he hpl
theorem dRet (D : CalX X.prog X.w X.K X.mg X.base C k x m) (hr : Room j X.A) (gd : X.A.guards = some []) (hj : k ≤ j) (hg : Gl X x)
    (tk : Takes X (fun cls d _ H => E cls d H)) (ha : PA X (e :: es) (tAr X.K f)) (hdb : (x == ("__debug__" : Str)) = false := by decide) (he : starEach (e :: es) X.env = (false, eval e X.env) :: starEach es X.env := by rfl) (hpl : (backTo pos (starEach es X.env)).any (·.1) = false := by rfl) :
    PS X (.Return (some (.Call (.Name x p) (e :: es) [] pos)) pos') (tSX X.K C E (sRt (evCall (onlyD m) (aNx f)))) := by
  obtain ⟨fa, fd, ps, F, hm, hk, hb⟩ := D.ex
  exact sRetX F (hr.mono hj) gd hg hm hk hb tk ha hdb he hpl
theorem dSet {pos2 : Pos} (i : Nat) (hN : X.N.Nodup) (hi : X.N[i]? = some y) (hy : Loc X.env.scope y) (D : CalX X.prog X.w X.K X.mg X.base C k x m) (hr : Room j X.A) (gd : X.A.guards = some []) (hj : k ≤ j) (hg : Gl X x)
    (tk : Takes X (fun cls d _ H => E cls d H)) (ha : PA X (e :: es) (tAr X.K f)) (hdb : (x == ("__debug__" : Str)) = false := by decide) (he : starEach (e :: es) X.env = (false, eval e X.env) :: starEach es X.env := by rfl) (hpl : (backTo pos (starEach es X.env)).any (·.1) = false := by rfl)
    (hf : X.fn y = true ∨ X.env.scope.names.lookup y = some .local := by first | exact .inl rfl | exact .inr rfl | assumption)
    (hs : swapsWith (.Call (.Name x p) (e :: es) [] pos) (some (.Name y pos')) pos2.line X.env = pure false := by rfl) :
    PS X (.Assign [.Name y pos'] (.Call (.Name x p) (e :: es) [] pos) pos2) (tSX X.K C E (sSet i (evCall (onlyD m) (aNx f)))) := by
  obtain ⟨fa, fd, ps, F, hm, hk, hb⟩ := D.ex
  exact sSetX hN hi hy F (hr.mono hj) gd hg hm hk hb tk ha hdb he hpl hf hs
theorem dTry (i ie jz : Nat) {z n : Str} {np p1 p2 p3 p4 p5 p6 p7 : Pos} (hsk : X.stack = X.env :: X.outer) (hfr : X.env.frame = some X.env.locals) (hN : X.N.Nodup) (hi : X.N[i]? = some y) (hy : Loc X.env.scope y) (hie : X.N[ie]? = some n) (hln : X.env.kindOf n = some .local) (hz0 : X.N[jz]? = some z) (hz : Loc X.env.scope z)
    (T : NoD X.K X.mg C fI B) (hgc : Gl X "NoDeed") (D : CalX X.prog X.w X.K X.mg X.base C k x m) (hr : Room j X.A) (gd : X.A.guards = some []) (hj : k ≤ j) (hg : Gl X x)
    (ha : ∀ (pn : List (Addr × Obj)) (xe : Value → Shared → Prop), PA (X.tr pn xe) (e :: es) (tAr X.K f))
    (hdb : (x == ("__debug__" : Str)) = false := by decide) (he : starEach (e :: es) X.env = (false, eval e X.env) :: starEach es X.env := by rfl) (hpl : (backTo pos (starEach es X.env)).any (·.1) = false := by rfl)
    (hs : swapsWith (.Call (.Name x p) (e :: es) [] pos) (some (.Name y p1)) p2.line X.env = pure false := by rfl)
    (hf : X.fn y = true ∨ X.env.scope.names.lookup y = some .local := by first | exact .inl rfl | exact .inr rfl | assumption)
    (hf2 : X.fn z = true ∨ X.env.scope.names.lookup z = some .local := by first | exact .inl rfl | exact .inr rfl | assumption)
    (hv : Vis X.env.scope n := by first | exact .inl rfl | exact .inr rfl) (hn1 : (n == ("__debug__" : Str)) = false := by decide) (hn2 : (n == ("__classdict__" : Str)) = false := by decide)
    (hs2 : swapsWith (.Attribute (.Name n p3) "number" p4) (some (.Name z p5)) p6.line X.env = pure false := by rfl)
    (hb2 : attributeBase (.Name n p3) "number" X.env (eval (.Name n p3) X.env) = eval (.Name n p3) X.env := by rfl) :
    PS X (.Try [.Assign [.Name y p1] (.Call (.Name x p) (e :: es) [] pos) p2] [.ExceptHandler (some (.Name "NoDeed" np)) (some n) [.Assign [.Name z p5] (.Attribute (.Name n p3) "number" p4) p6] p7] [] [] pos')
      (tS X.K (sTryN (some i) ie jz (onlyD m) (aNx f))) := by
  obtain ⟨fa, fd, ps, F, hm, hk, hb⟩ := D.ex
  exact sTryR hsk hfr hN hi hy hie hln hz0 hz T hgc F (hr.mono hj) gd hg hm hk hb ha hdb he hpl hs hf hf2 hv hn1 hn2 hs2 hb2
theorem dTryE (ie jz : Nat) {z n : Str} {np p2 p3 p4 p5 p6 p7 : Pos} (hsk : X.stack = X.env :: X.outer) (hfr : X.env.frame = some X.env.locals) (hN : X.N.Nodup) (hie : X.N[ie]? = some n) (hln : X.env.kindOf n = some .local) (hz0 : X.N[jz]? = some z) (hz : Loc X.env.scope z)
    (T : NoD X.K X.mg C fI B) (hgc : Gl X "NoDeed") (D : CalX X.prog X.w X.K X.mg X.base C k x m) (hr : Room j X.A) (gd : X.A.guards = some []) (hj : k ≤ j) (hg : Gl X x)
    (ha : ∀ (pn : List (Addr × Obj)) (xe : Value → Shared → Prop), PA (X.tr pn xe) (e :: es) (tAr X.K f))
    (hdb : (x == ("__debug__" : Str)) = false := by decide) (he : starEach (e :: es) X.env = (false, eval e X.env) :: starEach es X.env := by rfl) (hpl : (backTo pos (starEach es X.env)).any (·.1) = false := by rfl)
    (hs : swapsWith (.Call (.Name x p) (e :: es) [] pos) none p2.line X.env = pure false := by rfl)
    (hf2 : X.fn z = true ∨ X.env.scope.names.lookup z = some .local := by first | exact .inl rfl | exact .inr rfl | assumption)
    (hv : Vis X.env.scope n := by first | exact .inl rfl | exact .inr rfl) (hn1 : (n == ("__debug__" : Str)) = false := by decide) (hn2 : (n == ("__classdict__" : Str)) = false := by decide)
    (hs2 : swapsWith (.Attribute (.Name n p3) "number" p4) (some (.Name z p5)) p6.line X.env = pure false := by rfl)
    (hb2 : attributeBase (.Name n p3) "number" X.env (eval (.Name n p3) X.env) = eval (.Name n p3) X.env := by rfl) :
    PS X (.Try [.Expr (.Call (.Name x p) (e :: es) [] pos) p2] [.ExceptHandler (some (.Name "NoDeed" np)) (some n) [.Assign [.Name z p5] (.Attribute (.Name n p3) "number" p4) p6] p7] [] [] pos')
      (tS X.K (sTryN none ie jz (onlyD m) (aNx f))) := by
  obtain ⟨fa, fd, ps, F, hm, hk, hb⟩ := D.ex
  exact sTryE hsk hfr hN hie hln hz0 hz T hgc F (hr.mono hj) gd hg hm hk hb ha hdb he hpl hs hf2 hv hn1 hn2 hs2 hb2
end
def clsDef : Stmt → Stmt
  | .ClassDef (body := b) .. => b.getD 0 (.Pass ⟨0, 0, 0, 0⟩)
  | s => s
/-- an error of the class at S is what «except U» names -/
theorem exm_own {K : Frg} {S U : Addr} (h1 : PySem.W.subIn K (.ref U) (.type "BaseException") = some true) (h2 : PySem.W.isClsIn K U = true) (h3 : PySem.W.typeIn K (.ref U) = some (.type "type")) (h4 : PySem.W.subIn K (.ref S) (.ref U) = some true) :
    PySem.W.exmOne K (.ref S) (.ref U) = some true := by
  have e1 : (PySem.W.subIn K (.ref U) (.type "BaseException") == some true) = true := by rw [h1] <;> rfl
  have e2 : ((PySem.W.clsIn K U).isSome && PySem.W.typeIn K (.ref U) == some (.type "type")) = true := by
    have h2' : (PySem.W.clsIn K U).isSome = true := h2
    rw [h2', h3] <;> rfl
  show (if (PySem.W.subIn K (.ref U) (.type "BaseException") == some true) = true then (if ((PySem.W.clsIn K U).isSome && PySem.W.typeIn K (.ref U) == some (.type "type")) = true then PySem.W.subIn K (.ref S) (.ref U) else none) else none) = some true
  rw [if_pos e1, if_pos e2]
  exact h4
end MV
set_option Elab.async false
set_option linter.all false
set_option maxRecDepth 100000
set_option maxHeartbeats 2000000
/-! A caught error of an own class, asked for its class. -/
namespace MV
open PySem PySem.Spec PyProof.Rows L2
structure NoDI (K : Frg) (C : Addr) : Prop where
  cl : (PySem.W.clsIn K C).isSome = true
  ha : PySem.W.findIn K (.ref C) "__class__" = some (some (.builtin "object.__class__"))
  hn : PySem.W.specialIn K (.builtin "object.__class__") "__get__" = some (some (.builtin "getset_descriptor.__get__"))
  ht : PySem.W.takesIn K (.builtin "object.__class__") = some true
  hm : PySem.W.mroIn K C (.type "object") = some true
section
variable {X : Cx} {C fI B : Addr} {e : Expr} {te : TE} {p p1 p2 pos : Pos}
/-- isinstance(e, c), e the error that the suite holds -/
def rIsN (K : Frg) (C a : Addr) : List V → Hp → VK → Prop := fun xs H Q => ∃ (c : V) (cv : Value) (b : Bool) (dd : Addr) (n : Int), xs = [.ref a, c] ∧ (∀ u, RelV c u → u = cv) ∧ PySem.W.kitOne K (.ref C) cv = some b ∧ H dd = some (xdN n) ∧ Q (.bl b) H
theorem inst_at {a dd : Addr} {n : Int} {oe : Obj} {pn pins : List (Addr × Obj)} {σ : L2.St} {H : Hp} {s : Shared} (I : Inv (X.suite a ((a, oe) :: pn)) pins σ H s) (hz : Zc (.ref C) (some dd) oe) (hf : ∃ vs, oe.data = .fields vs) (ea : H dd = some (xdN n)) :
    ∃ od, PySem.W.InstAt s.heap a oe C (some od) := by
  obtain ⟨ha, _⟩ := I.pin (a, oe) (List.mem_append_left _ List.mem_cons_self)
  obtain ⟨vs, hd⟩ := hf
  have hx : ObjOk X.prog X.w H s.heap dd (xdN n) := I.hok dd _ ea
  obtain ⟨mA, hns, hr⟩ := hx
  obtain ⟨od, ho, hl⟩ := lookIn_ns hns
  exact ⟨od, ha, hz.1, by unfold PySem.W.notCls; rw [hd] <;> rfl, by rw [hz.2]; exact ho⟩
theorem call_isN {a dd : Addr} {oe : Obj} {pn : List (Addr × Obj)} (T : NoD X.K X.mg C fI B) (N : NoDI X.K C) (hz : Zc (.ref C) (some dd) oe) (hf : ∃ vs, oe.data = .fields vs) :
    CallR (X.suite a ((a, oe) :: pn)) (.builtin "isinstance") (fun xs H Q => ∃ (c : V) (cv : Value) (b : Bool) (n : Int), xs = [.ref a, c] ∧ (∀ u, RelV c u → u = cv) ∧ PySem.W.kitOne X.K (.ref C) cv = some b ∧ H dd = some (xdN n) ∧ Q (.bl b) H) := by
  intro pins s σ H xs us Q I r h
  obtain ⟨c, cv, b, n, rfl, hcv, e, ed, q⟩ := h
  cases r with
  | cons rx rr =>
    cases rr with
    | cons rt rr =>
      cases rr
      cases rx
      have ec := hcv _ rt
      subst ec
      obtain ⟨od, J⟩ := inst_at I hz hf ed
      exact PySem.W.kia_one (PySem.W.kitx_exc N.cl T.ga T.gg T.T.exC N.ha N.hn N.ht N.hm) I.kIn J e (fun z => nomatch z) fun tk => ⟨.bl b, H, I.kept (t' := tk) fun _ _ z => z, rfl, q⟩
theorem call_isNT {a dd : Addr} {oe : Obj} {pn : List (Addr × Obj)} (T : NoD X.K X.mg C fI B) (N : NoDI X.K C) (hz : Zc (.ref C) (some dd) oe) (hf : ∃ vs, oe.data = .fields vs) :
    CallR (X.suite a ((a, oe) :: pn)) (.builtin "isinstance") (fun xs H Q => ∃ (tp : Addr) (cs : List Addr) (b : Bool) (n : Int), xs = [.ref a, .ref tp] ∧ H tp = some (.tup (cs.map V.ref)) ∧ PySem.W.kitAny X.K (.ref C) (cs.map Value.ref) = some b ∧ H dd = some (xdN n) ∧ Q (.bl b) H) := by
  intro pins s σ H xs us Q I r h
  obtain ⟨tp, cs, b, n, rfl, htp, e, ed, q⟩ := h
  cases r with
  | cons rx rr =>
    cases rr with
    | cons rt rr =>
      cases rr
      cases rx
      cases rt
      obtain ⟨od, J⟩ := inst_at I hz hf ed
      obtain ⟨z, its, rv, o, ho, hc, m, hd⟩ := I.hok tp _ htp
      have ei : ∀ (cs : List Addr) (its : List Value), Vals (cs.map V.ref) its → its = cs.map Value.ref := fun cs => by
        induction cs with
        | nil => intro its r; cases r; rfl
        | cons c cs ih =>
          intro its r
          rw [List.map_cons] at r
          cases r with
          | cons h t =>
            cases h
            rw [ih _ t, List.map_cons]
      have ei := ei cs its rv
      subst ei
      obtain ⟨oc, odd, odt, osl⟩ := o
      dsimp only at hc hd
      subst hc hd
      exact PySem.W.kia_tup (PySem.W.kitx_exc N.cl T.ga T.gg T.T.exC N.ha N.hn N.ht N.hm) I.kIn J ho e (fun z => nomatch z) fun tk => ⟨.bl b, H, I.kept (t' := tk) fun _ _ z => z, rfl, q⟩
def rI1 (K : Frg) (C a : Addr) (cls : Value) (d : Option Addr) : List V → Hp → VK → Prop := fun xs H Q => cls = .ref C ∧ ∃ (dd : Addr) (c : V) (cv : Value) (b : Bool) (n : Int), d = some dd ∧ xs = [.ref a, c] ∧ (∀ u, RelV c u → u = cv) ∧ PySem.W.kitOne K (.ref C) cv = some b ∧ H dd = some (xdN n) ∧ Q (.bl b) H
def rI2 (K : Frg) (C a : Addr) (cls : Value) (d : Option Addr) : List V → Hp → VK → Prop := fun xs H Q => cls = .ref C ∧ ∃ (dd tp : Addr) (cs : List Addr) (b : Bool) (n : Int), d = some dd ∧ xs = [.ref a, .ref tp] ∧ H tp = some (.tup (cs.map V.ref)) ∧ PySem.W.kitAny K (.ref C) (cs.map Value.ref) = some b ∧ H dd = some (xdN n) ∧ Q (.bl b) H
theorem call_I1 {a : Addr} {cls : Value} {d : Option Addr} {oe : Obj} {pn : List (Addr × Obj)} (T : NoD X.K X.mg C fI B) (N : NoDI X.K C) (hz : Zc cls d oe) (hf : ∃ vs, oe.data = .fields vs) : CallR (X.suite a ((a, oe) :: pn)) (.builtin "isinstance") (rI1 X.K C a cls d) := by
  intro pins s σ H xs us Q I r h
  obtain ⟨rfl, dd, c, cv, b, n, rfl, h1, h2, h3, h4, h5⟩ := h
  exact call_isN T N hz hf pins s σ H xs us Q I r ⟨c, cv, b, n, h1, h2, h3, h4, h5⟩
theorem call_I2 {a : Addr} {cls : Value} {d : Option Addr} {oe : Obj} {pn : List (Addr × Obj)} (T : NoD X.K X.mg C fI B) (N : NoDI X.K C) (hz : Zc cls d oe) (hf : ∃ vs, oe.data = .fields vs) : CallR (X.suite a ((a, oe) :: pn)) (.builtin "isinstance") (rI2 X.K C a cls d) := by
  intro pins s σ H xs us Q I r h
  obtain ⟨rfl, dd, tp, cs, b, n, rfl, h1, h2, h3, h4, h5⟩ := h
  exact call_isNT T N hz hf pins s σ H xs us Q I r ⟨tp, cs, b, n, h1, h2, h3, h4, h5⟩
/-- the suite of k07: -1, the number where it is a NoDeed, -1 where it is another one -/
def tSu (K : Frg) (C : Addr) (ie j : Nat) (tt : TA) (a : Addr) (cls : Value) (d : Option Addr) : TS :=
  tSeq (tAsg (tUn (rU fun i => .int (-i)) (tC (.int 1))) (gName j))
    (tSeq (tIfS (tAnd (L2.tB (tCB (rI1 K C a cls d) (tCons (tVar ie) (tCons (tC (.ref C)) tNil)))) (L2.tB (tCB (rI1 K C a cls d) (tCons (tVar ie) (tCons (tC (.ty "ValueError")) tNil))))) (tAsg (tNum C a cls d (tVar ie)) (gName j)) tNext)
      (tIfS (L2.tB (tCB (rI2 K C a cls d) (tCons (tVar ie) (tCons (tTup tt) tNil)))) (tAsg (tUn (rU fun i => .int (-i)) (tC (.int 1))) (gName j)) tNext))
theorem su_ok {K : Frg} {ie j : Nat} {cs : List Addr} {a dd : Addr} {n : Int} {σ : L2.St} {H : Hp} {D : Ends} {tt : TA} (h1 : PySem.W.kitOne K (.ref C) (.ref C) = some true) (h2 : PySem.W.kitOne K (.ref C) (.type "ValueError") = some true) (h3 : PySem.W.kitAny K (.ref C) (cs.map Value.ref) = some false)
    (ht : ∀ σ H Q, Q (cs.map V.ref) H → tt σ H Q) (hl : cs.length ≤ 100) (hn : ie ≠ j) (e1 : σ[ie]? = some (some (.ref a))) (e2 : H dd = some (xdN n))
    (q : ∀ H', (∀ b o, H b = some o → H' b = some o) → H' dd = some (xdN n) → (∃ tp, H tp = none ∧ H' = L2.upd H tp (.tup (cs.map V.ref))) → D.nx (((σ.set j (some (.int (-1)))).set j (some (.int n)))) H') : tSu K C ie j tt a (.ref C) (some dd) D σ H := by
  have s1 : ∀ x : Option V, (σ.set j x)[ie]? = some (some (.ref a)) := fun x => by rw [List.getElem?_set_ne (Ne.symm hn)]; exact e1
  have s2 : ∀ x y : Option V, ((σ.set j x).set j y)[ie]? = some (some (.ref a)) := fun x y => by rw [List.getElem?_set_ne (Ne.symm hn)]; exact s1 x
  refine ⟨1, rfl, ?_⟩
  refine ⟨.ref a, s1 _, rfl, dd, .ref C, .ref C, true, n, rfl, rfl, fun u h => h, h1, e2, true, rfl, ?_⟩
  dsimp only
  rw [if_pos rfl]
  refine ⟨.ref a, s1 _, rfl, dd, .ty "ValueError", .type "ValueError", true, n, rfl, rfl, fun u h => h, h2, e2, true, rfl, ?_⟩
  dsimp only
  rw [if_pos rfl]
  refine ⟨.ref a, s1 _, rfl, rfl, dd, n, rfl, e2, ?_⟩
  refine ⟨.ref a, s2 _ _, ht _ _ _ ⟨by rw [List.length_map]; have := sizeLine_eq; omega, fun tp hp => ?_⟩⟩
  have e3 : L2.upd H tp (.tup (cs.map V.ref)) dd = some (xdN n) := by
    rw [upd_ne (fun z => by rw [z, hp] at e2; cases e2)]
    exact e2
  refine ⟨rfl, dd, tp, cs, false, n, rfl, rfl, by rw [upd_same], h3, e3, false, rfl, ?_⟩
  dsimp only
  rw [if_neg (by decide)]
  exact q _ (fun b o h => by rw [upd_ne (fun z => by rw [z, hp] at h; cases h)]; exact h) e3 ⟨tp, hp, rfl⟩
/-- what the written part says of the suite of k07 -/
structure NoW (K : Frg) (mg : Str → Option Value) (C : Addr) : Prop where
  di : NoDI K C
  zi : mg "isinstance" = none
  zv : mg "ValueError" = none
  k1 : PySem.W.kitOne K (.ref C) (.ref C) = some true
  k2 : PySem.W.kitOne K (.ref C) (.type "ValueError") = some true
  cs : ∃ c1 c2 c3 c4 c5 c6 : Addr, mg "Lacks" = some (.ref c1) ∧ mg "NoBack" = some (.ref c2) ∧ mg "NoLine" = some (.ref c3) ∧ mg "NoText" = some (.ref c4) ∧ mg "NoWall" = some (.ref c5) ∧ mg "OfKind" = some (.ref c6) ∧
    PySem.W.kitAny K (.ref C) [.ref c1, .ref c2, .ref c3, .ref c4, .ref c5, .ref c6] = some false
theorem kitOne_self {K : Frg} {C : Addr} : PySem.W.kitOne K (.ref C) (.ref C) = some true := by
  unfold PySem.W.kitOne
  rw [if_pos (by simp)]
theorem kitOne_ve {K : Frg} {C : Addr} (h : PySem.W.subIn K (.ref C) (.type "ValueError") = some true) : PySem.W.kitOne K (.ref C) (.type "ValueError") = some true := by
  unfold PySem.W.kitOne
  rw [if_neg (fun z => by
    have z : (Value.ref C) = .type "ValueError" := by simpa using z
    cases z)]
  show (if PySem.W.kitMeta "ValueError" = true then PySem.W.subIn K (.ref C) (.type "ValueError") else none) = some true
  rw [if_pos (by decide), h]
theorem kitOne_no {K : Frg} {C c : Addr} (h0 : PySem.W.subIn K (.ref C) (.ref C) = some true) (h1 : PySem.W.isClsIn K c = true) (h2 : PySem.W.typeIn K (.ref c) = some (.type "type")) (h3 : PySem.W.subIn K (.ref C) (.ref c) = some false) : PySem.W.kitOne K (.ref C) (.ref c) = some false := by
  unfold PySem.W.kitOne
  rw [if_neg (fun z => by
    have z : (Value.ref C) = .ref c := by simpa using z
    cases z
    rw [h0] at h3
    cases h3)]
  show (if ((PySem.W.clsIn K c).isSome && PySem.W.typeIn K (.ref c) == some (.type "type")) = true then PySem.W.subIn K (.ref C) (.ref c) else none) = some false
  have h1' : (PySem.W.clsIn K c).isSome = true := h1
  rw [if_pos (by rw [h1', h2] <;> rfl), h3]
theorem kitAny_six {K : Frg} {C c1 c2 c3 c4 c5 c6 : Addr} (h0 : PySem.W.subIn K (.ref C) (.ref C) = some true)
    (i1 : PySem.W.isClsIn K c1 = true) (t1 : PySem.W.typeIn K (.ref c1) = some (.type "type")) (u1 : PySem.W.subIn K (.ref C) (.ref c1) = some false)
    (i2 : PySem.W.isClsIn K c2 = true) (t2 : PySem.W.typeIn K (.ref c2) = some (.type "type")) (u2 : PySem.W.subIn K (.ref C) (.ref c2) = some false)
    (i3 : PySem.W.isClsIn K c3 = true) (t3 : PySem.W.typeIn K (.ref c3) = some (.type "type")) (u3 : PySem.W.subIn K (.ref C) (.ref c3) = some false)
    (i4 : PySem.W.isClsIn K c4 = true) (t4 : PySem.W.typeIn K (.ref c4) = some (.type "type")) (u4 : PySem.W.subIn K (.ref C) (.ref c4) = some false)
    (i5 : PySem.W.isClsIn K c5 = true) (t5 : PySem.W.typeIn K (.ref c5) = some (.type "type")) (u5 : PySem.W.subIn K (.ref C) (.ref c5) = some false)
    (i6 : PySem.W.isClsIn K c6 = true) (t6 : PySem.W.typeIn K (.ref c6) = some (.type "type")) (u6 : PySem.W.subIn K (.ref C) (.ref c6) = some false) :
    PySem.W.kitAny K (.ref C) [.ref c1, .ref c2, .ref c3, .ref c4, .ref c5, .ref c6] = some false := by
  simp only [PySem.W.kitAny, kitOne_no h0 i1 t1 u1, kitOne_no h0 i2 t2 u2, kitOne_no h0 i3 t3 u3, kitOne_no h0 i4 t4 u4, kitOne_no h0 i5 t5 u5, kitOne_no h0 i6 t6 u6]
theorem tryW_ok {K : Frg} {mg : Str → Option Value} {T : NoD K mg C fI B} {cs : List Addr} {tt : TA} {A : Wd} {S : Sto} {H : Hp} {ρ : Envi} {σ : L2.St} {D : Ends} {i : Nat} {ie j : Nat} {g : V → L2.St → L2.St} {f : SA} {m : Fn} {Wout : WX} (w : Wf K A S H) (env : REnv K A H ρ σ)
    (h1 : PySem.W.kitOne K (.ref C) (.ref C) = some true) (h2 : PySem.W.kitOne K (.ref C) (.type "ValueError") = some true) (h3 : PySem.W.kitAny K (.ref C) (cs.map Value.ref) = some false)
    (ht : ∀ σ H Q, Q (cs.map V.ref) H → tt σ H Q) (hl : cs.length ≤ 100) (hn : ie ≠ j)
    (hg : ∀ z y H', Rp K A.V H' y z → REnv K A H' ρ σ → REnv K A H' (ρ.set i (some (.d z))) (g y σ))
    (p : PostS K A H D (sTryN (some i) ie j (onlyD m) f ρ S)) (h0 : ∀ e S1, f ρ S ≠ .exc e S1) :
    PostA K A H (fun xs H1 => spX K C (onlyD m) xs H1 (fun y H2 => D.nx (g y σ) H2) (WE (wAs K (.ref B) ie (fun a cls d => tSu K C ie j tt a cls d) Wout D) σ)) (f ρ S) := by
  unfold sTryN at p
  split at p
  · exact p.elim
  rename_i hie
  have hie : ie < σ.length := by rw [env.len]; omega
  cases q : f ρ S with
  | no => rw [q] at p; exact p
  | exc e S1 => exact (h0 _ _ q).elim
  | ok vs S1 =>
    rw [q] at p
    intro xs H1 e1 w1 r1
    refine ⟨A, S1, vs, w1, r1, ?_⟩
    cases q2 : onlyD m vs S1 with
    | no => rw [bind_okE, q2] at p; exact p.elim
    | exc e2 S2 =>
      rw [bind_okE, q2] at p
      dsimp only at p
      cases q3 : numOf e2 with
      | none => rw [q3] at p; exact p.elim
      | some n =>
        rw [q3] at p
        refine ⟨n, numOf_ok q3, fun A' d H' e' w' hd => ⟨true, T.tb, fun _ a ha => ?_, fun z => by cases z⟩⟩
        refine su_ok h1 h2 h3 ht hl hn (by rw [List.getElem?_set_self hie]) hd fun H2 keep hd2 ⟨tp, hp, eH⟩ => ?_
        subst eH
        have w2 := w'.less e'
        have hle : A.A.length ≤ A'.A.length := by obtain ⟨Z, h1⟩ := e'.pre; rw [h1]; simp
        rw [List.take_take, Nat.min_eq_left hle, w1.len] at w2
        have e2 : Ext A H A (L2.upd H' tp (.tup (cs.map V.ref))) := (e1.trans (Ext.less (B := []) e')).trans (Ext.laid hp)
        rw [List.set_set]
        exact (show ∀ A' σ' H', Ext A H A' H' → Wf K A' (S2.take S1.length) H' → REnv K A' H' ((ρ.set j (some (.d (.int n)))).set ie none) σ' → D.nx σ' H' from p) A _ _ e2 (w2.laid hp) (env.mono e2).catch
    | ok v S2 =>
      rw [bind_okE, q2] at p
      obtain ⟨z, rfl⟩ := onlyD_d q2
      intro y H2 e2 w2 r2
      exact (show ∀ A' σ' H', Ext A H A' H' → Wf K A' S2 H' → REnv K A' H' (ρ.set i (some (.d z))) σ' → D.nx σ' H' from p) A _ H2 (e1.trans e2) w2 (hg z y H2 r2 (env.mono (e1.trans e2)))
end
section
variable {X : Cx} {C fI B : Addr} {p pos pos' : Pos} {x y : Str} {e : Expr} {es : List Expr} {k j i : Nat} {m : Fn} {f : SA}
theorem dTryW (i ie jz : Nat) {z n : Str} {np p1 p2 q1 q2 q3 q4 r1 r2 r3 r4 r5 r6 r7 r8 r9 t1 t2 t3 t4 t5 u1 u2 u3 u4 u5 u6 u7 u8 u9 u10 v1 v2 v3 v4 v5 p7 : Pos} (hsk : X.stack = X.env :: X.outer) (hfr : X.env.frame = some X.env.locals) (hN : X.N.Nodup) (hi : X.N[i]? = some y) (hy : Loc X.env.scope y) (hie : X.N[ie]? = some n) (hln : X.env.kindOf n = some .local) (hz0 : X.N[jz]? = some z) (hz : Loc X.env.scope z)
    (T : NoD X.K X.mg C fI B) (N : NoW X.K X.mg C) (hne : ie ≠ jz) (g1 : Gl X "WebError") (g2 : Gl X "NoDeed") (g3 : Gl X "isinstance") (g4 : Gl X "ValueError") (g5 : Gl X "Lacks") (g6 : Gl X "NoBack") (g7 : Gl X "NoLine") (g8 : Gl X "NoText") (g9 : Gl X "NoWall") (g10 : Gl X "OfKind")
    (D : CalX X.prog X.w X.K X.mg X.base C k x m) (hr : Room j X.A) (gd : X.A.guards = some []) (hj : k ≤ j) (hg : Gl X x)
    (ha : ∀ (pn : List (Addr × Obj)) (xe : Value → Shared → Prop), PA (X.tr pn xe) (e :: es) (tAr X.K f))
    (hdb : (x == ("__debug__" : Str)) = false := by decide) (he : starEach (e :: es) X.env = (false, eval e X.env) :: starEach es X.env := by rfl) (hpl : (backTo pos (starEach es X.env)).any (·.1) = false := by rfl)
    (hs : swapsWith (.Call (.Name x p) (e :: es) [] pos) (some (.Name y p1)) p2.line X.env = pure false := by rfl)
    (hf : X.fn y = true ∨ X.env.scope.names.lookup y = some .local := by first | exact .inl rfl | exact .inr rfl | assumption)
    (hf2 : X.fn z = true ∨ X.env.scope.names.lookup z = some .local := by first | exact .inl rfl | exact .inr rfl | assumption)
    (hv : Vis X.env.scope n := by first | exact .inl rfl | exact .inr rfl) (hn1 : (n == ("__debug__" : Str)) = false := by decide) (hn2 : (n == ("__classdict__" : Str)) = false := by decide)
    (hsa : swapsWith (.UnaryOp .USub (.Constant (.int 1) 0 q2) q3) (some (.Name z q1)) q4.line X.env = pure false := by rfl)
    (hsb : swapsWith (.UnaryOp .USub (.Constant (.int 1) 0 v2) v3) (some (.Name z v1)) v4.line X.env = pure false := by rfl)
    (hs2 : swapsWith (.Attribute (.Name n t2) "number" t3) (some (.Name z t1)) t4.line X.env = pure false := by rfl)
    (hb2 : attributeBase (.Name n t2) "number" X.env (eval (.Name n t2) X.env) = eval (.Name n t2) X.env := by rfl) :
    PS X (.Try [.Assign [.Name y p1] (.Call (.Name x p) (e :: es) [] pos) p2] [.ExceptHandler (some (.Name "WebError" np)) (some n) [
        .Assign [.Name z q1] (.UnaryOp .USub (.Constant (.int 1) 0 q2) q3) q4,
        .If (.BoolOp .And [.Call (.Name "isinstance" r1) [.Name n r2, .Name "NoDeed" r3] [] r4, .Call (.Name "isinstance" r5) [.Name n r6, .Name "ValueError" r7] [] r8] r9) [.Assign [.Name z t1] (.Attribute (.Name n t2) "number" t3) t4] [] t5,
        .If (.Call (.Name "isinstance" u1) [.Name n u2, .Tuple [.Name "Lacks" u3, .Name "NoBack" u4, .Name "NoLine" u5, .Name "NoText" u6, .Name "NoWall" u7, .Name "OfKind" u8] 0 u9] [] u10) [.Assign [.Name z v1] (.UnaryOp .USub (.Constant (.int 1) 0 v2) v3) v4] [] v5] p7] [] [] pos')
      (tS X.K (sTryN (some i) ie jz (onlyD m) (aNx f))) := by
  obtain ⟨fa, fd, ps, F, hm, hk, hb⟩ := D.ex
  obtain ⟨c1, c2, c3, c4, c5, c6, m1, m2, m3, m4, m5, m6, k3⟩ := N.cs
  refine PSi (ps_try_as (i := ie) (c := .ref B) (Wout := fun _ _ _ _ => False) (tb := fun W => tAsg (tCX X.K C (onlyD m) (WE W) (tAr X.K (aNx f))) (gName i))
    (ts := fun a cls d => tSu X.K C ie jz (tCons (tC (.ref c1)) (tCons (tC (.ref c2)) (tCons (tC (.ref c3)) (tCons (tC (.ref c4)) (tCons (tC (.ref c5)) (tCons (tC (.ref c6)) tNil)))))) a cls d) hsk hfr hN hie hln ⟨g1, by decide, .inl T.gB⟩ takes0
    (fun W pn xe tk _ => pss_one (ps_set (X := X.tr pn xe) hN hi hy (peX (X := X.tr pn xe) (E := WE W) F (hr.mono hj) gd hg hm hk hb (fun σ => passAt tk σ) (aLiftX (X := X.tr pn xe) (ha pn xe)) hdb he hpl) hs hf))
    (fun a oe cls d pn hzc hff => ?_)) fun D σ H ⟨A, S, ρ, w, env, q⟩ => ?_
  · have pv : ∀ {q : Pos}, PE (X.suite a ((a, oe) :: pn)) (.Name n q) (tVar ie) := pe_var (X := X.suite a ((a, oe) :: pn)) hie hv hn1 hn2
    refine pss_cons (ps_set (X := X.suite a ((a, oe) :: pn)) hN hz0 hz (pe_un un_neg pe_int) hsa hf2) (pss_cons (ps_if ?_ (pss_one (ps_set (X := X.suite a ((a, oe) :: pn)) hN hz0 hz (pe_num (X := X) T hzc hff pv hb2) hs2 hf2)) pss_nil) (pss_one (ps_if ?_ (pss_one (ps_set (X := X.suite a ((a, oe) :: pn)) hN hz0 hz (pe_un un_neg pe_int) hsb hf2)) pss_nil)))
    · exact PW.pt (pw_and (pt_val (pe_callB (X := X.suite a ((a, oe) :: pn)) (call_I1 T N.di hzc hff) g3 N.zi (by decide +kernel) (pa_cons pv (pa_cons (pe_glob (X := X.suite a ((a, oe) :: pn)) g2 T.gC rfl) pa_nil))))
        (pw_and1 (pt_val (pe_callB (X := X.suite a ((a, oe) :: pn)) (call_I1 T N.di hzc hff) g3 N.zi (by decide +kernel) (pa_cons pv (pa_cons (pe_bltn (X := X.suite a ((a, oe) :: pn)) g4 N.zv (by decide +kernel) rfl) pa_nil))))))
    · exact pt_val (pe_callB (X := X.suite a ((a, oe) :: pn)) (call_I2 T N.di hzc hff) g3 N.zi (by decide +kernel) (pa_cons pv (pa_cons (pe_tup (pa_cons (pe_glob (X := X.suite a ((a, oe) :: pn)) g5 m1 rfl) (pa_cons (pe_glob (X := X.suite a ((a, oe) :: pn)) g6 m2 rfl) (pa_cons (pe_glob (X := X.suite a ((a, oe) :: pn)) g7 m3 rfl) (pa_cons (pe_glob (X := X.suite a ((a, oe) :: pn)) g8 m4 rfl) (pa_cons (pe_glob (X := X.suite a ((a, oe) :: pn)) g9 m5 rfl) (pa_cons (pe_glob (X := X.suite a ((a, oe) :: pn)) g10 m6 rfl) pa_nil))))))) pa_nil)))
  · refine ⟨A, S, ρ, w, env, ?_⟩
    exact tryW_ok (T := T) (cs := [c1, c2, c3, c4, c5, c6]) (i := i) (g := fun y σ => σ.set i (some y)) w env N.k1 N.k2 k3 (fun _ _ _ q => q) (by simp) hne (fun z y H' r en => en.set (v := .d z) r) q aNx_ok
end
end MV
set_option Elab.async false
set_option linter.all false
set_option maxRecDepth 100000
namespace Z
open PySem PySem.Spec PyProof.Rows L2 MV
def topS (i : Nat) : Stmt := PySem.Challenge.pw_drawnweb_k07_done.main.body.getD i (.Pass ⟨0, 0, 0, 0⟩)
abbrev s_init : Stmt := clsDef (topS 2)
abbrev s_is_whole : Stmt := topS 10
abbrev n_is_whole : List Str := ["thing"]
noncomputable def y_is_whole : Ss := sRt (evAnd (evIsi "int" (evV 0)) (evNot (evIsi "bool" (evV 0))))
noncomputable def m_is_whole : Fn := mkFn 1 1 y_is_whole
abbrev s_is_deed : Stmt := topS 13
abbrev n_is_deed : List Str := ["web", "thing", "place"]
noncomputable def y_is_deed : Ss := sSeq (sIf (bOr (bNot (tst (evIsi "tuple" (evV 1)))) (bOr (tst (ev2 gLt (evCall (g1 fLen) (aCons (evV 1) (aNil))) (evK (.int 2)))) (bNot (tst (evIsi "str"
      (ev2 gIx (evV 1) (evK (.int 0)))))))) (sRt (evK (.bool false))) (sNil)) (sSeq (sIf (bNot (tst (evCall (g1 fAll) (aCons (evComp (iSeq (evSl (evV 1) (oYes
      (evK (.int 1))) (oNo))) (bName 2) (bYes) (evCall m_is_whole (aCons (evV 2) (aNil))) [2]) (aNil))))) (sRt (evK (.bool false))) (sNil)) (sSeq (sIf (tst
      (ev2 gIn (ev2 gIx (evV 1) (evK (.int 0))) (evK (.tuple [.str (Str.ofString "cut"), .str (Str.ofString "draw")])))) (sRt (ev2 gIn (evSl (evV 1) (oYes (evK
      (.int 1))) (oNo)) (ev2 gIx (evV 0) (evK (.int 1))))) (sNil)) (sRt (evAnd (ev2 gEq (ev2 gIx (evV 1) (evK (.int 0))) (evK (.str (Str.ofString "drop"))))
      (evAnd (ev2 gEq (evCall (g1 fLen) (aCons (evV 1) (aNil))) (evK (.int 2))) (ev2 gIn (ev2 gIx (evV 1) (evK (.int 1))) (ev2 gIx (evV 0) (evK (.int 0)))))))))
noncomputable def m_is_deed : Fn := mkFn 2 3 y_is_deed
abbrev s_drawn_tie : Stmt := topS 14
abbrev n_drawn_tie : List Str := ["tie", "a", "b", "one", "other", "place"]
noncomputable def y_drawn_tie : Ss := sSeq (sAsg (evComp (iSeq (evV 0)) (bName 5) (bYes) (evIf (tst (ev2 gEq (evV 5) (evV 2))) (evV 1) (evV 5)) [5]) (bTupL [bName 3, bName 4])) (sSeq (sIf (tst
      (ev2 gEq (evV 3) (evV 4))) (sRt (evK .none)) (sNil)) (sRt (evTup (aCons (evCall gMin (aCons (evV 3) (aCons (evV 4) (aNil)))) (aCons (evCall gMax (aCons
      (evV 3) (aCons (evV 4) (aNil)))) (aNil))))))
noncomputable def m_drawn_tie : Fn := mkFn 3 6 y_drawn_tie
abbrev s_drawn_together : Stmt := topS 15
abbrev n_drawn_together : List Str := ["web", "a", "b", "ties", "some", "tie", "place"]
noncomputable def y_drawn_together : Ss := sSeq (sSet 3 (evComp (iSeq (ev2 gIx (evV 0) (evK (.int 1)))) (bName 5) (bYes) (evCall m_drawn_tie (aCons (evV 5) (aCons (evV 1) (aCons (evV 2) (aNil)))))
      [5])) (sSeq (sSet 4 (evSorS (evComp (iSeq (evV 3)) (bName 5) (tst (ev2 gNotN (evV 5) (evK .none))) (evV 5) [5]))) (sRt (evTup (aCons (evCall (g1 fTuple)
      (aCons (evComp (iSeq (ev2 gIx (evV 0) (evK (.int 0)))) (bName 6) (tst (ev2 gNe (evV 6) (evV 2))) (evV 6) [6]) (aNil))) (aCons (evCall (g1 fTuple) (aCons
      (evV 4) (aNil))) (aNil))))))
noncomputable def m_drawn_together : Fn := mkFn 3 7 y_drawn_together
abbrev s_behind : Stmt := topS 16
abbrev n_behind : List Str := ["web", "deed", "places", "place", "tie"]
noncomputable def y_behind : Ss := sSeq (sIf (tst (ev2 gEq (ev2 gIx (evV 1) (evK (.int 0))) (evK (.str (Str.ofString "cut"))))) (sRt (evTup (aCons (ev2 gIx (evV 0) (evK (.int 0))) (aCons
      (evCall (g1 fTuple) (aCons (evComp (iSeq (ev2 gIx (evV 0) (evK (.int 1)))) (bName 4) (tst (ev2 gNe (evV 4) (evSl (evV 1) (oYes (evK (.int 1))) (oNo))))
      (evV 4) [4]) (aNil))) (aNil))))) (sNil)) (sSeq (sIf (tst (ev2 gEq (ev2 gIx (evV 1) (evK (.int 0))) (evK (.str (Str.ofString "draw"))))) (sRt (evCall m_drawn_together
      (aCons (evV 0) (aCons (ev2 gIx (evV 1) (evK (.int 1))) (aCons (ev2 gIx (evV 1) (evK (.int 2))) (aNil)))))) (sNil)) (sSeq (sSet 2 (evCall (g1 fTuple) (aCons
      (evComp (iSeq (ev2 gIx (evV 0) (evK (.int 0)))) (bName 3) (tst (ev2 gNe (evV 3) (ev2 gIx (evV 1) (evK (.int 1))))) (evV 3) [3]) (aNil)))) (sRt (evTup
      (aCons (evV 2) (aCons (evCall (g1 fTuple) (aCons (evComp (iSeq (ev2 gIx (evV 0) (evK (.int 1)))) (bName 4) (tst (ev2 gNotIn (ev2 gIx (evV 1) (evK (.int
      1))) (evV 4))) (evV 4) [4]) (aNil))) (aNil)))))))
noncomputable def m_behind : Fn := mkFn 2 5 y_behind
abbrev s_played : Stmt := topS 17
abbrev n_played : List Str := ["web", "row", "number", "deed"]
noncomputable def y_played : Ss := sSeq (sFo (iNx (iEnm (evV 1))) (bTup [bName 2, bName 3]) (sSeq (sIf (bNx (bNot (tst (evCall m_is_deed (aCons (evV 0) (aCons (evV 3) (aNil))))))) (xRaise
      (aCons (evV 2) (aNil))) (sNil)) (sNx (sSet 0 (evCall m_behind (aCons (evV 0) (aCons (evV 3) (aNil)))))))) (sNx (sRt (evV 0)))
noncomputable def m_played : Fn := onlyD (mkFn 2 4 y_played)
abbrev s_done : Stmt := topS 18
abbrev n_done : List Str := ["web", "deed"]
noncomputable def y_done : Ss := sRt (evCall m_played (aNx (aCons (evV 0) (aCons (evTup (aCons (evV 1) (aNil))) (aNil)))))
noncomputable def m_done : Fn := onlyD (mkFn 2 2 y_done)
abbrev s_l_cell : Stmt := topS 20
abbrev n_l_cell : List Str := ["_law_script", "_law_k"]
noncomputable def y_l_cell : Ss := sSeq (sIf (tst (ev2 gEq (evCall (g1 fLen) (aCons (evV 0) (aNil))) (evK (.int 0)))) (sRt (evK (.int 0))) (sNil)) (sRt (ev2 gIx (evV 0) (ev2 gMod (evV 1)
      (evCall (g1 fLen) (aCons (evV 0) (aNil))))))
noncomputable def m_l_cell : Fn := mkFn 2 2 y_l_cell
abbrev s_l_left : Stmt := topS 21
abbrev n_l_left : List Str := ["_law_script", "_law_k", "_law_cell_here", "_law_great"]
noncomputable def y_l_left : Ss := sSeq (sSet 2 (evCall m_l_cell (aCons (evV 0) (aCons (evV 1) (aNil))))) (sSeq (sSet 3 (ev2 gMul (ev2 gMod (evCall (g1 fAbs) (aCons (evV 2) (aNil))) (ev2
      gPow (ev2 gPow (evK (.int 10)) (evK (.int 50))) (evK (.int 8)))) (evCall (g1 fInt) (aCons (ev2 gGe (evCall (g1 fAbs) (aCons (evV 2) (aNil))) (ev2 gPow
      (evK (.int 10)) (evK (.int 18)))) (aNil))))) (sRt (evLst (aCons (evV 3) (aCons (ev2 gMod (ev2 gMul (ev2 gAdd (ev2 gAdd (ev2 gMod (evV 2) (evK (.int 2147483629)))
      (ev2 gMul (ev2 gMul (evK (.int 7919)) (evV 1)) (evV 1))) (evK (.int 17))) (evK (.int 48271))) (evK (.int 2147483647))) (aCons (evK (.int 0)) (aNil)))))))
noncomputable def m_l_left : Fn := mkFn 2 4 y_l_left
abbrev s_l_pick : Stmt := topS 22
abbrev n_l_pick : List Str := ["_law_left_here", "_law_many", "_law_digit"]
noncomputable def y_l_pick : Ss := sSeq (sIf (tst (ev2 gGt (ev2 gIx (evV 0) (evK (.int 0))) (evK (.int 0)))) (sSeq (sSet 2 (ev2 gMod (ev2 gIx (evV 0) (evK (.int 0))) (evV 1))) (sSeq (sPut
      (evV 0) (evK (.int 0)) (ev2 gDiv (ev2 gIx (evV 0) (evK (.int 0))) (evV 1))) (sRt (evV 2)))) (sNil)) (sSeq (sPut (evV 0) (evK (.int 2)) (ev2 gAdd (ev2
      gIx (evV 0) (evK (.int 2))) (evK (.int 1)))) (sSeq (sPut (evV 0) (evK (.int 1)) (ev2 gMod (ev2 gAdd (ev2 gAdd (ev2 gMul (ev2 gIx (evV 0) (evK (.int 1)))
      (evK (.int 69621))) (evK (.int 12345))) (ev2 gMul (evK (.int 101)) (ev2 gIx (evV 0) (evK (.int 2))))) (evK (.int 2147483647)))) (sRt (ev2 gMod (ev2 gDiv
      (ev2 gMod (ev2 gMul (ev2 gIx (evV 0) (evK (.int 1))) (ev2 gAdd (ev2 gMod (ev2 gIx (evV 0) (evK (.int 1))) (evK (.int 40009))) (evK (.int 7)))) (evK (.int
      2147483629))) (evK (.int 64))) (evV 1)))))
noncomputable def m_l_pick : Fn := mkFn 2 3 y_l_pick
abbrev s_l_web : Stmt := topS 23
abbrev n_l_web : List Str := ["_law_left_here", "_law_most", "_law_many", "_law_first", "_law_step", "_law_places", "_law_ties", "_law_b", "_law_choice", "_law_often", "_law_a", "_law_k"]
noncomputable def y_l_web : Ss := sSeq (sPar 8 9 (aCons (evCall m_l_pick (aCons (evV 0) (aCons (evK (.int 5)) (aNil)))) (aCons (ev2 gIx (evLst (aCons (evK (.int 1)) (aCons (evK (.int 2))
      (aCons (evK (.int 3)) (aCons (evK (.int 7)) (aNil)))))) (evCall m_l_pick (aCons (evV 0) (aCons (evK (.int 4)) (aNil))))) (aNil)))) (sSeq (sSet 2 (ev2
      gIx (evLst (aCons (evK (.int 0)) (aCons (evK (.int 1)) (aCons (evK (.int 2)) (aCons (evV 1) (aCons (ev2 gAdd (evK (.int 3)) (evCall m_l_pick (aCons (evV
      0) (aCons (ev2 gSub (evV 1) (evK (.int 2))) (aNil))))) (aNil))))))) (evV 8))) (sSeq (sSet 3 (evCall m_l_pick (aCons (evV 0) (aCons (evK (.int 100)) (aNil)))))
      (sSeq (sSet 4 (ev2 gIx (evLst (aCons (evK (.int 1)) (aCons (evK (.int 3)) (aCons (evK (.int 7)) (aCons (evK (.int 9)) (aCons (evK (.int 11)) (aCons (evK
      (.int 13)) (aCons (evK (.int 17)) (aCons (evK (.int 19)) (aCons (evK (.int 21)) (aCons (evK (.int 23)) (aCons (evK (.int 27)) (aCons (evK (.int 29)) (aCons
      (evK (.int 31)) (aCons (evK (.int 33)) (aNil)))))))))))))))) (evCall m_l_pick (aCons (evV 0) (aCons (evK (.int 14)) (aNil)))))) (sSeq (sSet 5 (evCall
      gSorted (aCons (evComp (iBy gRange1 (aCons (evV 2) (aNil))) (bName 11) (bYes) (ev2 gMod (ev2 gAdd (evV 3) (ev2 gMul (evV 4) (evV 11))) (evK (.int 100)))
      [11]) (aNil)))) (sSeq (sCell 6 (evLst (aNil))) (sSeq (sFo (iSeq (evV 5)) (bName 7) (sFo (iSeq (evV 5)) (bName 10) (sIf (bAnd (tst (ev2 gLt (evV 10) (evV
      7))) (bAnd (tst (ev2 gLt (evCall (g1 fLen) (aCons (evV 6) (aNil))) (evK (.int 60)))) (tst (ev2 gEq (evCall m_l_pick (aCons (evV 0) (aCons (evV 9) (aNil))))
      (evK (.int 0)))))) (sEx (evMt "list" gAppend (evV 6) (aCons (evTup (aCons (evV 10) (aCons (evV 7) (aNil)))) (aNil)))) (sNil)))) (sRt (evTup (aCons (evCall
      (g1 fTuple) (aCons (evV 5) (aNil))) (aCons (evCall (g1 fTuple) (aCons (evCall gSorted (aCons (evV 6) (aNil))) (aNil))) (aNil)))))))))))
noncomputable def m_l_web : Fn := mkFn 2 12 y_l_web
abbrev s_l_all : Stmt := topS 24
abbrev n_l_all : List Str := ["_law_web_here", "_law_cuts", "_law_tie", "_law_place"]
noncomputable def y_l_all : Ss := sSeq (sSet 1 (evComp (iSeq (ev2 gIx (evV 0) (evK (.int 1)))) (bName 2) (bYes) (ev2 gAdd (evTup (aCons (evK (.str (Str.ofString "cut"))) (aNil))) (evV 2))
      [2])) (sRt (ev2 gAdd (ev2 gAdd (evV 1) (evComp (iSeq (ev2 gIx (evV 0) (evK (.int 1)))) (bName 2) (bYes) (ev2 gAdd (evTup (aCons (evK (.str (Str.ofString
      "draw"))) (aNil))) (evV 2)) [2])) (evComp (iSeq (ev2 gIx (evV 0) (evK (.int 0)))) (bName 3) (bYes) (evTup (aCons (evK (.str (Str.ofString "drop"))) (aCons
      (evV 3) (aNil)))) [3])))
noncomputable def m_l_all : Fn := mkFn 1 4 y_l_all
abbrev s_l_spoilt : Stmt := topS 25
abbrev n_l_spoilt : List Str := ["_law_left_here", "_law_web_here", "_law_deed", "_law_number", "_law_some", "_law_choice", "_law_at"]
noncomputable def y_l_spoilt : Ss := sSeq (sPar 5 6 (aCons (evCall m_l_pick (aCons (evV 0) (aCons (evK (.int 9)) (aNil)))) (aCons (evCall m_l_pick (aCons (evV 0) (aCons (evCall (g1 fLen) (aCons
      (evV 2) (aNil))) (aNil)))) (aNil)))) (sSeq (sSet 3 (ev2 gSub (evCall m_l_pick (aCons (evV 0) (aCons (evK (.int 102)) (aNil)))) (evK (.int 1)))) (sSeq
      (sIf (tst (ev2 gEq (evV 5) (evK (.int 0)))) (sRt (ev2 gAdd (ev2 gAdd (evSl (evV 2) (oNo) (oYes (evV 6))) (evTup (aCons (ev2 gMul (evV 3) (evCall (g1 fInt)
      (aCons (ev2 gGt (evV 6) (evK (.int 0))) (aNil)))) (aNil)))) (evSl (evV 2) (oYes (ev2 gAdd (evV 6) (evK (.int 1)))) (oNo)))) (sNil)) (sSeq (sIf (tst (ev2
      gEq (evV 5) (evK (.int 1)))) (sRt (ev2 gAdd (evSl (evV 2) (oNo) (oYes (evK (.int 1)))) (evRev (evSl (evV 2) (oYes (evK (.int 1))) (oNo))))) (sNil)) (sSeq
      (sIf (tst (ev2 gEq (evV 5) (evK (.int 2)))) (sRt (ev2 gAdd (evTup (aCons (ev2 gIx (evLst (aCons (evK (.str (Str.ofString "cut"))) (aCons (evK (.str (Str.ofString
      "draw"))) (aCons (evK (.str (Str.ofString "drop"))) (aCons (evK (.str (Str.ofString "Cut"))) (aCons (evK (.str (Str.ofString "cuts"))) (aCons (evK (.str
      (Str.ofString ""))) (aCons (evK (.str (Str.ofString "done"))) (aCons (evK (.str (Str.ofString "tie"))) (aNil)))))))))) (evCall m_l_pick (aCons (evV 0)
      (aCons (evK (.int 8)) (aNil))))) (aNil))) (evSl (evV 2) (oYes (evK (.int 1))) (oNo)))) (sNil)) (sSeq (sIf (tst (ev2 gEq (evV 5) (evK (.int 3)))) (sRt
      (ev2 gAdd (evSl (evV 2) (oNo) (oYes (evV 6))) (evSl (evV 2) (oYes (ev2 gAdd (evV 6) (evK (.int 1)))) (oNo)))) (sNil)) (sSeq (sIf (tst (ev2 gEq (evV 5)
      (evK (.int 4)))) (sRt (ev2 gAdd (evV 2) (evTup (aCons (evV 3) (aNil))))) (sNil)) (sSeq (sIf (tst (ev2 gEq (evV 5) (evK (.int 5)))) (sRt (ev2 gIx (evLst
      (aCons (evCall gList (aCons (evV 2) (aNil))) (aCons (evTup (aCons (evV 2) (aNil))) (aCons (evSl (evV 2) (oYes (evK (.int 1))) (oNo)) (aCons (evCall gStr
      (aCons (evV 2) (aNil))) (aCons (ev2 gAdd (evSl (evV 2) (oNo) (oYes (evK (.int 1)))) (evTup (aCons (evSl (evV 2) (oYes (evK (.int 1))) (oNo)) (aNil))))
      (aNil))))))) (evCall m_l_pick (aCons (evV 0) (aCons (evK (.int 5)) (aNil)))))) (sNil)) (sSeq (sIf (tst (ev2 gEq (evV 5) (evK (.int 6)))) (sSeq (sSet 4
      (evLst (aCons (evK (.bool true)) (aCons (evK (.bool false)) (aCons (evK .none) (aCons (evK (.str (Str.ofString "0"))) (aCons (evLst (aCons (evK (.int
      0)) (aNil))) (aCons (evTup (aCons (evK (.int 0)) (aNil))) (aCons (evCall gStr (aCons (ev2 gIx (evV 2) (evUn (fun i => -i) (evK (.int 1)))) (aNil))) (aCons
      (ev2 gSub (evUn (fun i => -i) (ev2 gIx (evV 2) (evUn (fun i => -i) (evK (.int 1))))) (evK (.int 1))) (aNil))))))))))) (sRt (ev2 gAdd (evSl (evV 2) (oNo)
      (oYes (evUn (fun i => -i) (evK (.int 1))))) (evTup (aCons (ev2 gIx (evV 4) (evCall m_l_pick (aCons (evV 0) (aCons (evK (.int 8)) (aNil))))) (aNil))))))
      (sNil)) (sSeq (sIf (tst (ev2 gEq (evV 5) (evK (.int 7)))) (sRt (evTup (aCons (ev2 gIx (evLst (aCons (evK (.str (Str.ofString "cut"))) (aCons (evK (.str
      (Str.ofString "draw"))) (aNil)))) (evCall m_l_pick (aCons (evV 0) (aCons (evK (.int 2)) (aNil))))) (aCons (evCall m_l_pick (aCons (evV 0) (aCons (evK
      (.int 100)) (aNil)))) (aCons (evCall m_l_pick (aCons (evV 0) (aCons (evK (.int 100)) (aNil)))) (aNil)))))) (sNil)) (sSeq (sSet 4 (evLst (aCons (evK .none)
      (aCons (evK (.bool true)) (aCons (evK (.int 0)) (aCons (evK (.str (Str.ofString ""))) (aCons (evK (.str (Str.ofString "cut"))) (aCons (evTup (aNil)) (aCons
      (evLst (aNil)) (aCons (evDic0) (aCons (evTup (aCons (evK (.str (Str.ofString "cut"))) (aNil))) (aCons (evTup (aCons (evK (.str (Str.ofString "drop")))
      (aNil))) (aCons (evTup (aCons (evK (.int 0)) (aCons (evK (.int 1)) (aNil)))) (aCons (evTup (aCons (evK (.str (Str.ofString "drop"))) (aCons (evTup (aNil))
      (aNil)))) (aCons (evTup (aCons (evTup (aCons (evK (.str (Str.ofString "cut"))) (aCons (evK (.int 0)) (aCons (evK (.int 1)) (aNil))))) (aNil))) (aCons
      (evV 1) (aNil))))))))))))))))) (sRt (ev2 gIx (evV 4) (evCall m_l_pick (aCons (evV 0) (aCons (evCall (g1 fLen) (aCons (evV 4) (aNil))) (aNil))))))))))))))))
noncomputable def m_l_spoilt : Fn := mkFn 3 7 y_l_spoilt
abbrev s_l_is_deed : Stmt := topS 26
abbrev n_l_is_deed : List Str := ["_law_web_here", "_law_thing", "_law_one"]
noncomputable def y_l_is_deed : Ss := sSeq (sIf (bOr (bNot (tst (evIsi "tuple" (evV 1)))) (bOr (tst (ev2 gNotIn (evCall (g1 fLen) (aCons (evV 1) (aNil))) (evTup (aCons (evK (.int 2)) (aCons
      (evK (.int 3)) (aNil)))))) (bNot (tst (evIsi "str" (ev2 gIx (evV 1) (evK (.int 0)))))))) (sRt (evK (.bool false))) (sNil)) (sSeq (sIf (bNot (tst (evCall
      (g1 fAll) (aCons (evComp (iSeq (evSl (evV 1) (oYes (evK (.int 1))) (oNo))) (bName 2) (bYes) (evAnd (evIsi "int" (evV 2)) (evNot (evIsi "bool" (evV 2))))
      [2]) (aNil))))) (sRt (evK (.bool false))) (sNil)) (sSeq (sIf (tst (ev2 gEq (evCall (g1 fLen) (aCons (evV 1) (aNil))) (evK (.int 2)))) (sRt (evAnd (ev2
      gEq (ev2 gIx (evV 1) (evK (.int 0))) (evK (.str (Str.ofString "drop")))) (ev2 gIn (ev2 gIx (evV 1) (evK (.int 1))) (ev2 gIx (evV 0) (evK (.int 0))))))
      (sNil)) (sRt (evAnd (ev2 gIn (ev2 gIx (evV 1) (evK (.int 0))) (evTup (aCons (evK (.str (Str.ofString "cut"))) (aCons (evK (.str (Str.ofString "draw")))
      (aNil))))) (ev2 gIn (evSl (evV 1) (oYes (evK (.int 1))) (oNo)) (ev2 gIx (evV 0) (evK (.int 1))))))))
noncomputable def m_l_is_deed : Fn := mkFn 2 3 y_l_is_deed
abbrev s_l_behind : Stmt := topS 27
abbrev n_l_behind : List Str := ["_law_web_here", "_law_deed", "_law_gone", "_law_ties", "_law_a", "_law_b", "_law_tie", "_law_other", "_law_place"]
noncomputable def y_l_behind : Ss := sSeq (sIf (tst (ev2 gEq (ev2 gIx (evV 1) (evK (.int 0))) (evK (.str (Str.ofString "cut"))))) (sRt (evTup (aCons (ev2 gIx (evV 0) (evK (.int 0))) (aCons
      (evCall (g1 fTuple) (aCons (evComp (iSeq (ev2 gIx (evV 0) (evK (.int 1)))) (bName 6) (tst (ev2 gNe (evV 6) (evSl (evV 1) (oYes (evK (.int 1))) (oNo))))
      (evV 6) [6]) (aNil))) (aNil))))) (sNil)) (sSeq (sSet 2 (ev2 gIx (evV 1) (evUn (fun i => -i) (evK (.int 1))))) (sSeq (sCell 3 (evCall gDictT (aCons (evComp
      (iSeq (ev2 gIx (evV 0) (evK (.int 1)))) (bName 6) (tst (ev2 gNotIn (evV 2) (evV 6))) (evTup (aCons (evV 6) (aCons (evK (.bool true)) (aNil)))) [6]) (aNil))))
      (sSeq (sIf (tst (ev2 gEq (ev2 gIx (evV 1) (evK (.int 0))) (evK (.str (Str.ofString "draw"))))) (sFo (iSeq (ev2 gIx (evV 0) (evK (.int 1)))) (bTup [bName
      4, bName 5]) (sIf (bAnd (tst (ev2 gIn (evV 2) (evTup (aCons (evV 4) (aCons (evV 5) (aNil)))))) (tst (ev2 gNotIn (ev2 gIx (evV 1) (evK (.int 1))) (evTup
      (aCons (evV 4) (aCons (evV 5) (aNil))))))) (sSeq (sSet 7 (ev2 gSub (ev2 gAdd (evV 4) (evV 5)) (evV 2))) (sPutT (evV 3) (evTup (aCons (evCall gMin (aCons
      (evV 7) (aCons (ev2 gIx (evV 1) (evK (.int 1))) (aNil)))) (aCons (evCall gMax (aCons (evV 7) (aCons (ev2 gIx (evV 1) (evK (.int 1))) (aNil)))) (aNil))))
      (evK (.bool true)))) (sNil))) (sNil)) (sRt (evTup (aCons (evCall (g1 fTuple) (aCons (evComp (iSeq (ev2 gIx (evV 0) (evK (.int 0)))) (bName 8) (tst (ev2
      gNe (evV 8) (evV 2))) (evV 8) [8]) (aNil))) (aCons (evCall (g1 fTuple) (aCons (evCall gSortedT (aCons (evV 3) (aNil))) (aNil))) (aNil))))))))
noncomputable def m_l_behind : Fn := mkFn 2 9 y_l_behind
abbrev s_l_same : Stmt := topS 28
abbrev n_l_same : List Str := ["_law_found", "_law_due", "_law_one", "_law_other"]
noncomputable def y_l_same (self : Fn) : Ss := sSeq (sIf (tst (evIsi "tuple" (evV 1))) (sSeq (sIf (bOr (bNot (tst (evIsi "tuple" (evV 0)))) (tst (ev2 gNe (evCall (g1 fLen) (aCons (evV 0) (aNil))) (evCall
      (g1 fLen) (aCons (evV 1) (aNil)))))) (sRt (evK (.bool false))) (sNil)) (sRt (evCall (g1 fAll) (aCons (evComp (iByS gZip (aCons (evV 0) (aCons (evV 1)
      (aNil)))) (bTup [bName 2, bName 3]) (bYes) (evCall self (aCons (evV 2) (aCons (evV 3) (aNil)))) [2, 3]) (aNil))))) (sNil)) (sRt (evAnd (evIsi "int" (evV
      0)) (evAnd (evNot (evIsi "bool" (evV 0))) (ev2 gEq (evV 0) (evV 1)))))
noncomputable def m_l_same : Nat → Fn
  | 0 => fun _ _ => .no
  | n + 1 => mkFn 2 4 (y_l_same (m_l_same n))
abbrev s_l_right : Stmt := topS 29
abbrev n_l_right : List Str := ["_law_web_here", "_law_thing", "e", "_law_found", "_law_number"]
noncomputable def y_l_right : Ss := sSeq (sAsg (evTup (aCons (evK .none) (aCons (evK .none) (aNil)))) (bTup [bName 3, bName 4])) (sSeq (sTryN (some 3) 2 4 m_done (aNx (aCons (evV 0) (aCons
      (evV 1) (aNil))))) (sSeq (sIf (bNot (tst (evCall m_l_is_deed (aCons (evV 0) (aCons (evV 1) (aNil)))))) (sRt (evAnd (ev2 gIsN (evV 3) (evK .none)) (evCall
      (m_l_same 40) (aCons (evV 4) (aCons (evK (.int 0)) (aNil)))))) (sNil)) (sRt (evAnd (ev2 gIsN (evV 4) (evK .none)) (evCall (m_l_same 40) (aCons (evV 3)
      (aCons (evCall m_l_behind (aCons (evV 0) (aCons (evV 1) (aNil)))) (aNil))))))))
noncomputable def m_l_right : Fn := mkFn 2 5 y_l_right
abbrev s_law : Stmt := topS 30
abbrev n_law : List Str := ["_law_script", "_law_k", "_law_left_here", "_law_web_here", "_law_every", "_law_things", "_law_turn", "_law_kept", "_law_again", "_law_thing"]
noncomputable def y_law : Ss := sSeq (sFo (iBy gRange1 (aCons (ev2 gAdd (evK (.int 1)) (evCall gMin (aCons (evK (.int 4)) (aCons (evCall (g1 fLen) (aCons (evV 0) (aNil))) (aNil))))) (aNil)))
      (bName 1) (sSeq (sCell 2 (evCall m_l_left (aCons (evV 0) (aCons (evV 1) (aNil))))) (sSeq (sSet 3 (evCall m_l_web (aCons (evV 2) (aCons (evK (.int 24))
      (aNil))))) (sSeq (sSet 4 (evCall m_l_all (aCons (evV 3) (aNil)))) (sSeq (sCell 5 (evComp (iBy gRange1 (aCons (evK (.int 6)) (aNil))) (bName 6) (bYes)
      (evCall m_l_spoilt (aCons (evV 2) (aCons (evV 3) (aCons (evTup (aCons (evK (.str (Str.ofString "draw"))) (aCons (evK (.int 0)) (aCons (evK (.int 1)) (aNil)))))
      (aNil))))) [6])) (sSeq (sFo (iBy gRange1 (aCons (ev2 gMul (evK (.int 20)) (evCall (g1 fInt) (aCons (ev2 gNe (evV 4) (evLst (aNil))) (aNil)))) (aNil)))
      (bName 6) (sEx (evMt "list" gAppend (evV 5) (aCons (evCall m_l_spoilt (aCons (evV 2) (aCons (evV 3) (aCons (ev2 gIx (evV 4) (evCall m_l_pick (aCons (evV
      2) (aCons (evCall (g1 fLen) (aCons (evV 4) (aNil))) (aNil))))) (aNil))))) (aNil))))) (sSeq (sSet 7 (evCall gStr (aCons (evV 3) (aNil)))) (sFo (iBy gRange1
      (aCons (evK (.int 2)) (aNil))) (bName 8) (sFo (iSeq (ev2 gAdd (evV 4) (evV 5))) (bName 9) (sIf (bOr (bNot (tst (evCall m_l_right (aCons (evV 3) (aCons
      (evV 9) (aNil)))))) (tst (ev2 gNe (evCall gStr (aCons (evV 3) (aNil))) (evV 7)))) (sRt (evK (.bool false))) (sNil))))))))))) (sRt (evK (.bool true)))
noncomputable def m_law : Fn := mkFn 1 10 y_law
end Z
set_option Elab.async false
set_option linter.all false
set_option maxRecDepth 100000
set_option maxHeartbeats 1000000
namespace Z
open PySem PySem.Spec PyProof.Rows L2 MV
/-! ### family A: what is drawn -/
theorem hz : (1000 : Nat) ≤ sizeLine := by decide
def HL (l : List PyData) : Prop := ∃ a b c : Int, l = [.int a, .int b, .int c] ∧ 0 ≤ b ∧ b < 2147483647
theorem pick_wp {S : Sto} {n : Nat} {l : List PyData} {m : Int} {Q : Val → Sto → Prop} (hn : S[n]? = some (.lst l)) (hl : HL l) (hm : 0 < m) (hm2 : m < 1152921504606846976)
    (q : ∀ l' r, HL l' → 0 ≤ r → r < m → Q (.d (.int r)) (S.set n (.lst l'))) : wp (m_l_pick [.c n, .d (.int m)] S) Q := by
  obtain ⟨a, b, c, rfl, h1, h2⟩ := hl
  refine wp_fn rfl ?_
  have ht : ∀ (x : Cell), List.take S.length (S.set n x) = S.set n x := fun x => List.take_of_length_le (by simp)
  simp [y_l_pick, o_ixC hn]
  by_cases h : 0 < a
  · simp [h, hm, hm2, put3_0 hn, o_ixC hn, ht]
    exact q _ _ ⟨_, _, _, rfl, h1, h2⟩ (mod_in _ _ hm).1 (mod_in _ _ hm).2
  · have n1 := st_upd (k' := .lst [.int a, .int b, .int (c + 1)]) hn
    have m1 := mod_in (b * 69621 + 12345 + 101 * (c + 1)) 2147483647 (by decide)
    have n2 := st_upd (k' := .lst [.int a, .int ((b * 69621 + 12345 + 101 * (c + 1)) % 2147483647), .int (c + 1)]) hn
    have m2 : -18446744073709551616 < (b * 69621 + 12345 + 101 * (c + 1)) % 2147483647 := by omega
    have m3 : (b * 69621 + 12345 + 101 * (c + 1)) % 2147483647 < 18446744073709551616 := by omega
    simp [h, hm, m2, m3, o_ixC hn, put3_2 hn, o_ixC n1, put3_1 n1, o_ixC n2, ht]
    exact q _ _ ⟨_, _, _, rfl, m1.1, m1.2⟩ (mod_in _ _ hm).1 (mod_in _ _ hm).2
theorem cell_eq (ns : List Int) (k : Int) (hk : 0 ≤ k) (S : Sto) : ∃ x : Int, m_l_cell [.z (dI ns), .d (.int k)] S = .ok (.d (.int x)) S := by
  cases ns with
  | nil => exact ⟨0, fn_eq rfl (S1 := S) (by simp [y_l_cell]) (fun r h => by rw [← h]; simp)⟩
  | cons n ns =>
    have h1 : (0 : Int) < ((ns.length : Int) + 1) := by omega
    have h2 := Int.emod_nonneg k (b := (ns.length : Int) + 1) (by omega)
    have h3 := Int.emod_lt_of_pos k h1
    have h4 : (k % ((ns.length : Int) + 1)).toNat < (n :: ns).length := by simp; omega
    refine ⟨(n :: ns)[(k % ((ns.length : Int) + 1)).toNat], fn_eq rfl (S1 := S) ?_ (fun r h => by rw [← h]; simp)⟩
    have e : atI (dI (n :: ns)) (k % ((ns.length : Int) + 1)) = some (.int ((n :: ns)[(k % ((ns.length : Int) + 1)).toNat])) := at_nat h2 (by rw [List.getElem?_map, List.getElem?_eq_getElem h4]; rfl)
    have h5 : ¬ ((ns.length : Int) + 1 = 0) := by omega
    simp only [List.map_cons] at e
    simp [y_l_cell, h1, h5, e]
theorem left_wp (ns : List Int) (k : Int) (hk : 0 ≤ k) (hk2 : k < 1000) (S : Sto) : wp (m_l_left [.z (dI ns), .d (.int k)] S) fun v S' => S' = S ∧ ∃ l, v = .f (.lst l) ∧ HL l := by
  obtain ⟨x, hx⟩ := cell_eq ns k hk S
  have p1 : gPow (.d (.int 10)) (.d (.int 50)) S = .ok (.d (.int (10 ^ 50))) S := o_pow (by decide +kernel)
  have p2 : gPow (.d (.int (10 ^ 50))) (.d (.int 8)) S = .ok (.d (.int ((10 ^ 50) ^ 8))) S := o_pow (by decide +kernel)
  have p3 : gPow (.d (.int 10)) (.d (.int 18)) S = .ok (.d (.int (10 ^ 18))) S := o_pow (by decide +kernel)
  have p4 : (0 : Int) < (10 ^ 50) ^ 8 := by decide +kernel
  have b1 : ∀ b : Bool, (-18446744073709551616 : Int) < (if b = true then 1 else 0) ∧ ((if b = true then 1 else 0 : Int) < 18446744073709551616) := fun b => by cases b <;> decide
  have b2 : (-18446744073709551616 : Int) < 7919 * k := by omega
  have b3 : (7919 * k : Int) < 18446744073709551616 := by omega
  refine wp_fn rfl ?_
  simp only [y_l_left, e_sSeq, e_sSet, e_Call, e_aCons, e_V, e_aNil, e_2, e_K, e_sRt, e_Lst, List.map_cons, List.map_nil, List.replicate, List.cons_append, List.nil_append, List.getElem?_cons_zero, List.getElem?_cons_succ, bind_ok, th_z, th_d, hx, List.set_cons_zero, List.set_cons_succ, g_abs, p1, p2, p3, o_mod p4, o_ge, g_intB, o_add, o_mulR (b1 _).1 (b1 _).2]
  simp [b2, b3]
  exact ⟨_, _, _, rfl, (mod_in _ _ (by decide)).1, (mod_in _ _ (by decide)).2⟩
/-! a web that is drawn -/
theorem steps_inj {s f i j : Int} (hs : s ∈ [1, 3, 7, 9, 11, 13, 17, 19, 21, 23, 27, 29, 31, (33 : Int)]) (hi : 0 ≤ i ∧ i < 24) (hj : 0 ≤ j ∧ j < 24) (h : (f + s * i) % 100 = (f + s * j) % 100) : i = j := by
  simp at hs
  rcases hs with rfl | rfl | rfl | rfl | rfl | rfl | rfl | rfl | rfl | rfl | rfl | rfl | rfl | rfl <;> omega
theorem web_wp {S : Sto} {n : Nat} {l : List PyData} {most : Int} (hn : S[n]? = some (.lst l)) (hl : HL l) (hm : 3 ≤ most) (hm2 : most ≤ 24) :
    wp (m_l_web [.c n, .d (.int most)] S) fun v S' => ∃ W l', v = .d (pW W) ∧ IsWeb W ∧ (W.1.length : Int) ≤ most ∧ W.2.length ≤ 60 ∧ HL l' ∧ S' = S.set n (.lst l') := by
  have hz := hz
  have hlt := st_lt hn
  refine wp_fn rfl ?_
  refine wp_seqN fun K kn => ?_
  simp [wp_bind]
  refine pick_wp hn hl (by decide) (by decide) fun l1 choice hl1 c0 c1 => ?_
  simp [wp_bind]
  refine pick_wp (st_upd hn) hl1 (by decide) (by decide) fun l2 r2 hl2 r20 r21 => ?_
  obtain ⟨often, ho, e2⟩ := at_ex (xs := [1, 2, 3, 7]) r20 (by simpa using r21)
  simp only [List.map_cons, List.map_nil] at e2
  simp [e2]
  refine kn _ _ ?_
  clear kn K
  refine wp_seqN fun K kn => ?_
  simp [wp_bind]
  refine pick_wp (st_upd hn) hl2 (by omega) (by omega) fun l3 r3 hl3 r30 r31 => ?_
  obtain ⟨many, hm0, e3⟩ := at_ex (xs := [0, 1, 2, most, 3 + r3]) c0 (by simpa using c1)
  have hmany : 0 ≤ many ∧ many ≤ most := by simp at hm0; omega
  simp only [List.map_cons, List.map_nil] at e3
  simp [e3]
  refine kn _ _ ?_
  clear kn K
  refine wp_seqN fun K kn => ?_
  simp [wp_bind]
  refine pick_wp (st_upd hn) hl3 (by decide) (by decide) fun l4 first hl4 f0 f1 => ?_
  simp
  refine kn _ _ ?_
  clear kn K
  refine wp_seqN fun K kn => ?_
  simp [wp_bind]
  refine pick_wp (st_upd hn) hl4 (by decide) (by decide) fun l5 r5 hl5 r50 r51 => ?_
  obtain ⟨step, hs, e5⟩ := at_ex (xs := [1, 3, 7, 9, 11, 13, 17, 19, 21, 23, 27, 29, 31, 33]) r50 (by simpa using r51)
  have hstep : -18446744073709551616 < step ∧ step < 18446744073709551616 := by simp at hs; omega
  simp only [List.map_cons, List.map_nil] at e5
  simp [e5]
  refine kn _ _ ?_
  clear kn K
  refine wp_seqN fun K kn => ?_
  simp
  rw [comp_map (List.range many.toNat) (fun (i : Nat) => PyData.int (0 + i)) (fun (i : Nat) => .int ((first + step * i) % 100)) (s := ⟨iota 0 many.toNat, []⟩) (by simp; rw [e_range1 (by omega) (by omega)]) rfl gok_nil (by simp; omega)
    (fun t ht => ⟨_, by simp [wipeE]; rfl, by simp, _, by simp [hstep.1, hstep.2]; rfl, rfl⟩)]
  simp only [bind_ok, th_f, data_lst]
  rw [sorted_int (t := false) (g := []) (ns := (List.range many.toNat).map fun (i : Nat) => (first + step * i) % 100) (by simp [Function.comp_def]) (by simp; omega)]
  simp
  refine kn _ _ ?_
  clear kn K
  generalize hP : isort _ = P
  have hr : Rise P := by
    rw [← hP]
    refine isort_rise ?_
    rw [List.Nodup, List.pairwise_map]
    refine List.Pairwise.imp_of_mem (fun {a b} ha hb hab e => ?_) List.pairwise_lt_range
    rw [List.mem_range] at ha hb
    have := steps_inj hs (i := a) (j := b) (by omega) (by omega) e
    omega
  have hPl : ∀ a ∈ P, 0 ≤ a ∧ a ≤ 99 := by
    intro a ha
    rw [← hP, mem_isort, List.mem_map] at ha
    obtain ⟨i, _, rfl⟩ := ha
    have := mod_in (first + step * i) 100 (by decide)
    omega
  have hPn : (P.length : Int) ≤ most := by
    rw [← hP]; simp; omega
  refine wp_seqN fun K kn => ?_
  simp
  refine kn _ _ ?_
  clear kn K
  refine wp_seqN fun K kn => ?_
  clear e5 e3 e2 hm0 hP
  refine wp_forK (fun (pre : List Int) ρ T => ∃ l ts o7 o10 o11, HL l ∧ ρ = [some (.c n), some (.d (.int most)), some (.d (.int many)), some (.d (.int first)), some (.d (.int step)), some (.d (.list (dI P))), some (.c S.length), o7, some (.d (.int choice)), some (.d (.int often)), o10, o11] ∧
      T = S.set n (.lst l) ++ [.lst (dP ts)] ∧ ts.length ≤ 60 ∧ ts.Nodup ∧ ∀ t ∈ ts, t.1 < t.2 ∧ t.1 ∈ P ∧ t.2 ∈ pre) P PyData.int (by simp; rfl) rfl (fun _ _ _ _ => gok_nil) ?_ ?_ ?_
  · exact ⟨_, [], none, none, none, hl5, rfl, rfl, by simp, by simp, by simp⟩
  · rintro pre b post ρ T hP' ⟨l, ts, o7, o10, o11, hl, rfl, rfl, q1, q2, q3⟩
    refine ⟨_, rfl, fun K kn kr => ?_⟩
    refine wp_forK (fun (pri : List Int) ρ T => ∃ l ts o10 o11, HL l ∧ ρ = [some (.c n), some (.d (.int most)), some (.d (.int many)), some (.d (.int first)), some (.d (.int step)), some (.d (.list (dI P))), some (.c S.length), some (.d (.int b)), some (.d (.int choice)), some (.d (.int often)), o10, o11] ∧
      T = S.set n (.lst l) ++ [.lst (dP ts)] ∧ ts.length ≤ 60 ∧ ts.Nodup ∧ ∀ t ∈ ts, t.1 < t.2 ∧ t.1 ∈ P ∧ (t.2 ∈ pre ∨ t.2 = b ∧ t.1 ∈ pri)) P PyData.int (by simp; rfl) rfl (fun _ _ _ _ => gok_nil) ?_ ?_ ?_
    · exact ⟨_, ts, _, _, hl, rfl, rfl, q1, q2, fun t ht => ⟨(q3 t ht).1, (q3 t ht).2.1, .inl (q3 t ht).2.2⟩⟩
    · rintro pri a posti ρ T hPi ⟨l, ts, o10, o11, hl, rfl, rfl, q1, q2, q3⟩
      refine ⟨_, rfl, fun K kn kr => ?_⟩
      have hc : (S.set n (.lst l) ++ [.lst (dP ts)])[S.length]? = some (.lst (dP ts)) := st_loc
      have stay : ∀ l, HL l → K (.nx [some (.c n), some (.d (.int most)), some (.d (.int many)), some (.d (.int first)), some (.d (.int step)), some (.d (.list (dI P))), some (.c S.length), some (.d (.int b)), some (.d (.int choice)), some (.d (.int often)), some (.d (.int a)), o11]) (S.set n (.lst l) ++ [.lst (dP ts)]) :=
        fun l hl => kn _ _ ⟨_, ts, _, _, hl, rfl, rfl, q1, q2, fun t ht => ⟨(q3 t ht).1, (q3 t ht).2.1, (q3 t ht).2.2.imp id fun h => ⟨h.1, by simp [h.2]⟩⟩⟩
      simp [g_lenC hc]
      by_cases hab : a < b
      case neg => simp [hab]; exact stay _ hl
      by_cases hlen : (ts.length : Int) < 60
      case neg => simp [hab, hlen]; exact stay _ hl
      simp [hab, hlen, wp_bind]
      have ho' : 0 < often ∧ often < 100 := by simp at ho; omega
      refine pick_wp (st_own hlt) hl ho'.1 (by omega) fun l6 r6 hl6 r60 r61 => ?_
      rw [st_set_own hlt]
      have hc : (S.set n (.lst l6) ++ [.lst (dP ts)])[S.length]? = some (.lst (dP ts)) := st_loc
      by_cases h0 : r6 = 0
      case neg => simp [h0]; exact stay _ hl6
      subst h0
      simp [ty_list hc, app_c hc (y := .tuple [.int a, .int b]) (by simp; omega), st_set_loc]
      refine kn _ _ ⟨_, ts ++ [(a, b)], _, _, hl6, rfl, by simp [pP], by simp; omega, ?_, ?_⟩
      · rw [List.nodup_append]
        refine ⟨q2, by simp, fun x hx y hy e => ?_⟩
        rw [List.mem_singleton.mp hy] at e
        subst e
        have q := (q3 _ hx).2.2
        have hn := hr.nodup
        rcases q with q | q
        · rw [hP'] at hn
          exact (List.nodup_append.mp hn).2.2 b q b (by simp) rfl
        · rw [hPi] at hn
          exact (List.nodup_append.mp hn).2.2 a q.2 a (by simp) rfl
      · intro t ht
        rcases List.mem_append.mp ht with ht | ht
        · exact ⟨(q3 t ht).1, (q3 t ht).2.1, (q3 t ht).2.2.imp id fun h => ⟨h.1, by simp [h.2]⟩⟩
        · rw [List.mem_singleton.mp ht]
          exact ⟨hab, by rw [hPi]; simp, .inr ⟨rfl, by simp⟩⟩
    · rintro ρ T ⟨l, ts, o10, o11, hl, rfl, rfl, q1, q2, q3⟩
      exact kn _ _ ⟨_, ts, _, _, _, hl, rfl, rfl, q1, q2, fun t ht => ⟨(q3 t ht).1, (q3 t ht).2.1, (q3 t ht).2.2.elim (fun h => by simp [h]) fun h => by simp [h.1]⟩⟩
  · rintro ρ T ⟨l, ts, o7, o10, o11, hl, rfl, rfl, q1, q2, q3⟩
    refine kn _ _ ?_
    have hc : (S.set n (.lst l) ++ [.lst (dP ts)])[S.length]? = some (.lst (dP ts)) := st_loc
    simp
    rw [sorted_pair (t := false) (g := [(S.length, dP ts)]) (ps := ts) (by rw [seq_c, hc]) (by omega)]
    simp
    refine ⟨P, psort ts, rfl, ⟨hr, psort_rise q2, hPl, fun t ht => ?_⟩, hPn, by simpa using q1, l, hl, rfl⟩
    rw [mem_psort] at ht
    exact q3 t ht
end Z
set_option Elab.async false
set_option linter.all false
set_option maxRecDepth 100000
set_option maxHeartbeats 1000000
namespace Z
open PySem PySem.Spec PyProof.Rows L2 MV
/-! deeds: what is asked, and the law's own walk -/
mutual
/-- no tuple within is longer than k -/
def sl (k : Nat) : PyData → Bool
  | .tuple ds => decide (ds.length ≤ k) && sls k ds
  | _ => true
def sls (k : Nat) : List PyData → Bool
  | [] => true
  | d :: ds => sl k d && sls k ds
end
theorem sls_mem {k : Nat} : ∀ {ds : List PyData}, sls k ds = true → ∀ d ∈ ds, sl k d = true
  | [], _, d, h => by cases h
  | e :: ds, h, d, m => by
    rw [sls, Bool.and_eq_true] at h
    rcases List.mem_cons.mp m with rfl | m
    · exact h.1
    · exact sls_mem h.2 d m
theorem sl_tup {k : Nat} {ds : List PyData} (h : sl k (.tuple ds) = true) : ds.length ≤ k ∧ ∀ d ∈ ds, sl k d = true := by
  rw [sl, Bool.and_eq_true, decide_eq_true_iff] at h
  exact ⟨h.1, sls_mem h.2⟩
theorem sl_mk {k : Nat} {ds : List PyData} (h : ds.length ≤ k) (m : ∀ d ∈ ds, sl k d = true) : sl k (.tuple ds) = true := by
  rw [sl, Bool.and_eq_true, decide_eq_true_iff]
  refine ⟨h, ?_⟩
  clear h
  induction ds with
  | nil => rfl
  | cons d ds ih =>
    rw [sls, Bool.and_eq_true]
    exact ⟨m d (by simp), ih fun x hx => m x (List.mem_cons_of_mem _ hx)⟩
def isI : PyData → Bool
  | .int _ => true
  | _ => false
theorem all_isI : ∀ {ds : List PyData}, ds.all isI = true → ∃ ns : List Int, ds = dI ns
  | [], _ => ⟨[], rfl⟩
  | d :: ds, h => by
    rw [List.all_cons, Bool.and_eq_true] at h
    obtain ⟨ns, rfl⟩ := all_isI h.2
    cases d with
    | int i => exact ⟨i :: ns, rfl⟩
    | _ => simp [isI] at h
theorem whole_eq (x : PyData) (S : Sto) : m_is_whole [.d x] S = .ok (.d (.bool (isI x))) S := by
  refine fn_eq rfl (S1 := S) ?_ (fun r h => by rw [← h]; simp)
  cases x <;> simp [y_is_whole, kind, isOf, isI]
theorem all_eq {S : Sto} {α : Type} (xs : List α) (f : α → Bool) : g1 fAll [.d (.list (xs.map fun x => .bool (f x)))] S = .ok (.d (.bool (xs.all f))) S := by
  rw [g_all (bs := xs.map f) (by rw [List.map_map]; rfl), List.all_map]
  rfl
/-- the pair is a tie -/
def tieI (W : Web) (ns : List Int) : Bool := (dP W.2).any fun z => PyData.eqv z (pT ns)
theorem in_ties (W : Web) (ns : List Int) (S : Sto) : gIn (.d (pT ns)) (.d (pTs W.2)) S = .ok (.d (.bool (tieI W ns))) S := by
  unfold gIn
  have e : isIn S (.d (pT ns)) (.d (pTs W.2)) = (if SeqAt.shaped (pT ns) = true ∧ SeqAt.shaped (pTs W.2) = true then some ((dP W.2).any fun z => PyData.eqv z (pT ns)) else none) := by
    unfold isIn
    rfl
  rw [e, if_pos ⟨encT.shaped (by decide) ns, encTs.shaped (by decide) W.2⟩]
  rfl
theorem tieI_len {W : Web} {ns : List Int} (h : ns.length ≠ 2) : tieI W ns = false := by
  unfold tieI
  rw [List.any_eq_false]
  intro d hd
  obtain ⟨t, _, rfl⟩ := List.mem_map.mp hd
  rw [show pP t = pT [t.1, t.2] from rfl, encT.eqv]
  rintro rfl
  exact h rfl
def cutS : Str := Str.ofString "cut"
def drawS : Str := Str.ofString "draw"
def dropS : Str := Str.ofString "drop"
theorem in_tied {w : Str} (hw : PyData.strOk w = true) (S : Sto) : gIn (.d (.str w)) (.d (.tuple [.str (Str.ofString "cut"), .str (Str.ofString "draw")])) S = .ok (.d (.bool (decide (w ∈ [cutS, drawS])))) S := by
  unfold gIn
  have e : isIn S (.d (.str w)) (.d (.tuple [.str cutS, .str drawS])) = (if SeqAt.shaped (.str w) = true ∧ SeqAt.shaped (.tuple [.str cutS, .str drawS]) = true then some ([PyData.str cutS, .str drawS].any fun z => PyData.eqv z (.str w)) else none) := by
    unfold isIn
    rfl
  have h1 : SeqAt.shaped (.str w) = true := by simp [SeqAt.shaped, PyData.canLay0, PyData.depth, hw]
  show (match isIn S (.d (.str w)) (.d (.tuple [.str cutS, .str drawS])) with | some b => Res.ok (Val.d (.bool b)) S | none => Res.no) = _
  rw [e, if_pos ⟨h1, by decide +kernel⟩]
  congr 3
  simp [PyData.eqv]
  rw [Bool.eq_iff_iff, Bool.or_eq_true, Bool.or_eq_true, beq_iff_eq, beq_iff_eq, decide_eq_true_iff, decide_eq_true_iff, eq_comm (a := cutS), eq_comm (a := drawS)]
/-- one place alone, of the web -/
def onlyB (W : Web) : List Int → Bool
  | [p] => decide (p ∈ W.1)
  | _ => false
/-- the word and the numbers are a deed -/
def deedI (W : Web) (w : Str) (ns : List Int) : Bool := if w ∈ [cutS, drawS] then tieI W ns else decide (w = dropS) && onlyB W ns
theorem in_P (P : List Int) (i : Int) (S : Sto) : gIn (.d (.int i)) (.d (pT P)) S = .ok (.d (.bool (decide (i ∈ P)))) S := encInt.inT i P
def deedB (W : Web) : PyData → Bool
  | .tuple (.str w :: d :: r) => (d :: r).all isI && deedI W w ((intsOf (d :: r)).getD [])
  | _ => false
theorem deedB_I (W : Web) (w : Str) (n : Int) (ns : List Int) : deedB W (.tuple (.str w :: dI (n :: ns))) = deedI W w (n :: ns) := by
  have h : ((dI (n :: ns)).all isI && deedI W w ((intsOf (dI (n :: ns))).getD [])) = deedI W w (n :: ns) := by
    rw [ints_dI, List.all_eq_true.mpr (fun d hd => by obtain ⟨i, _, rfl⟩ := List.mem_map.mp hd; rfl)]
    rfl
  exact h
theorem is_deed_eq {W : Web} {x : PyData} (hs : sl 900 x = true) (hw : ∀ w r, x = .tuple (.str w :: r) → PyData.strOk w = true) (S : Sto) : m_is_deed [.d (pW W), .d x] S = .ok (.d (.bool (deedB W x))) S := by
  have hz := hz
  suffices h : wp (m_is_deed [.d (pW W), .d x] S) fun v S' => v = .d (.bool (deedB W x)) ∧ S' = S by
    obtain ⟨v, S', e, rfl, rfl⟩ := h.ex
    exact e
  refine wp_fn rfl ?_
  refine wp_seq fun K kn kr => ?_
  have bad : deedB W x = false → K (.rt (.d (.bool false))) S := fun no => kr _ _ (wp_out_d ⟨by rw [no], by simp⟩)
  cases x with
  | tuple ds =>
    obtain ⟨hl, -⟩ := sl_tup hs
    match ds, hl, bad with
    | [], _, bad =>
      simp [kind, isOf]
      exact bad rfl
    | [a], _, bad =>
      simp [kind, isOf]
      exact bad (by simp [deedB])
    | h :: d :: r, hl, bad =>
      have l2 : ¬ ((r.length : Int) + 1 + 1 < 2) := by omega
      cases h with
      | str w =>
        simp [kind, isOf, l2]
        refine kn _ _ ?_
        have ow := hw w _ rfl
        refine wp_seq fun K kn kr => ?_
        have bad : deedB W (.tuple (.str w :: d :: r)) = false → K (.rt (.d (.bool false))) S := fun no => kr _ _ (wp_out_d ⟨by rw [no], by simp⟩)
        have cf : MV.cutD (PyData.str w :: d :: r) (some 1) none = d :: r := cut_from (by decide)
        simp at hl
        simp [cf]
        rw [comp_map (d :: r) id (fun d => .bool (isI d)) (s := ⟨d :: r, []⟩) (by simp [cf]) (by simp) gok_nil (by simp; omega) (fun d hd => ⟨_, by simp [wipeE]; rfl, by simp, .d (.bool (isI d)), by simp [whole_eq], rfl⟩)]
        simp only [bind_ok, th_f, all_eq]
        by_cases c : (d :: r).all isI = true
        · obtain ⟨ns, e⟩ := all_isI c
          obtain ⟨n, ns', rfl, rfl⟩ : ∃ n ns', d = .int n ∧ r = dI ns' := by
            cases ns with
            | nil => cases e
            | cons n ns' => simp at e; exact ⟨n, ns', e.1, e.2⟩
          simp only [c]
          simp
          refine kn _ _ ?_
          have it : ∀ T : Sto, gIn (.d (.tuple (.int n :: dI ns'))) (.d (pTs W.2)) T = .ok (.d (.bool (tieI W (n :: ns')))) T := fun T => in_ties W (n :: ns') T
          have dB : deedB W (.tuple (.str w :: .int n :: dI ns')) = deedI W w (n :: ns') := deedB_I W w n ns'
          rw [dB]
          unfold deedI
          have tt := in_tied ow S
          have ip := in_P W.1 n S
          refine wp_seq fun K kn kr => ?_
          by_cases ct : w ∈ [cutS, drawS]
          · rw [decide_eq_true ct] at tt
            simp [tt, cf, it]
            exact kr _ _ (wp_out_d ⟨by rw [if_pos ct], by simp⟩)
          · rw [decide_eq_false ct] at tt
            simp [tt]
            refine kn _ _ ?_
            rw [if_neg ct]
            have ds : (Str.ofString "drop") = dropS := rfl
            by_cases cd : w = dropS
            · cases ns' with
              | nil => simp [ds, cd, ip, onlyB]
              | cons m ns' =>
                have l3 : ¬ ((ns'.length : Int) + 1 + 1 + 1 = 2) := by omega
                simp [ds, cd, l3, onlyB]
            · simp [ds, cd]
        · have c' : (d :: r).all isI = false := by simpa using c
          simp only [c']
          simp
          exact bad (by show ((d :: r).all isI && _) = false; rw [c']; rfl)
      | _ =>
        simp [kind, isOf, l2]
        exact bad rfl
  | _ =>
    simp [kind, isOf]
    exact bad rfl
end Z
set_option Elab.async false
set_option linter.all false
set_option maxRecDepth 100000
set_option maxHeartbeats 1000000
/-! The web behind a deed. -/
namespace Z
open PySem PySem.Spec PyProof.Rows L2 MV
inductive Dd where
  | cut (t : Int × Int)
  | draw (t : Int × Int)
  | drop (p : Int)
def encDd : Dd → PyData
  | .cut t => .tuple [.str cutS, .int t.1, .int t.2]
  | .draw t => .tuple [.str drawS, .int t.1, .int t.2]
  | .drop p => .tuple [.str dropS, .int p]
def DdOk (W : Web) : Dd → Prop
  | .cut t => t ∈ W.2
  | .draw t => t ∈ W.2
  | .drop p => p ∈ W.1
def mvv (a b z : Int) : Int := if z = b then a else z
def mmP (x y : Int) : Option (Int × Int) := if x = y then none else some (if y < x then y else x, if y > x then y else x)
/-- a tie behind a draw of b to a -/
def dTie (a b : Int) (t : Int × Int) : Option (Int × Int) := mmP (mvv a b t.1) (mvv a b t.2)
def behW (W : Web) : Dd → Web
  | .cut t => (W.1, W.2.filter fun u => !decide (u = t))
  | .draw t => (W.1.filter fun p => !decide (p = t.2), psort (dd (W.2.filterMap (dTie t.1 t.2))))
  | .drop p => (W.1.filter fun q => !decide (q = p), W.2.filter fun t => !decide (p ∈ [t.1, t.2]))
theorem mmP_some {x y : Int} {u : Int × Int} (h : mmP x y = some u) : u.1 < u.2 ∧ ((u.1 = x ∧ u.2 = y) ∨ (u.1 = y ∧ u.2 = x)) := by
  unfold mmP at h
  split at h
  · cases h
  · rename_i c
    have h := Option.some.inj h
    subst h
    dsimp only
    rcases Int.lt_or_gt_of_ne c with q | q
    · rw [if_neg (by omega), if_pos (by omega)]
      exact ⟨q, .inl ⟨rfl, rfl⟩⟩
    · rw [if_pos (by omega), if_neg (by omega)]
      exact ⟨q, .inr ⟨rfl, rfl⟩⟩
theorem dTie_some {W : Web} (hW : IsWeb W) {a b : Int} (hab : (a, b) ∈ W.2) {t u : Int × Int} (ht : t ∈ W.2) (h : dTie a b t = some u) : u.1 < u.2 ∧ (u.1 ∈ W.1 ∧ u.1 ≠ b) ∧ u.2 ∈ W.1 ∧ u.2 ≠ b := by
  have h1 := hW.lt t ht
  have h2 := hW.lt _ hab
  have ne : a ≠ b := by have := h2.1; dsimp only at this; omega
  have xs : ∀ z : Int, z ∈ W.1 → mvv a b z ∈ W.1 ∧ mvv a b z ≠ b := fun z hz => by
    unfold mvv
    split
    · exact ⟨h2.2.1, ne⟩
    · rename_i q
      exact ⟨hz, q⟩
  have x1 := xs t.1 h1.2.1
  have y1 := xs t.2 h1.2.2
  obtain ⟨q, r⟩ := mmP_some h
  rcases r with ⟨r1, r2⟩ | ⟨r1, r2⟩ <;> rw [r1, r2] <;> rw [r1, r2] at q
  · exact ⟨q, x1, y1⟩
  · exact ⟨q, y1, x1⟩
theorem beh_web {W : Web} (hW : IsWeb W) {d : Dd} (hd : DdOk W d) : IsWeb (behW W d) := by
  cases d with
  | cut t => exact ⟨hW.rp, hW.rt.sublist List.filter_sublist, hW.lo, fun u hu => hW.lt u (List.mem_filter.mp hu).1⟩
  | drop p =>
    refine ⟨hW.rp.sublist List.filter_sublist, hW.rt.sublist List.filter_sublist, fun a ha => hW.lo a (List.mem_filter.mp ha).1, fun u hu => ?_⟩
    obtain ⟨h1, h2⟩ := List.mem_filter.mp hu
    obtain ⟨q1, q2, q3⟩ := hW.lt u h1
    have h2 : ¬ p ∈ [u.1, u.2] := by simpa using h2
    simp at h2
    exact ⟨q1, List.mem_filter.mpr ⟨q2, by simp; exact Ne.symm h2.1⟩, List.mem_filter.mpr ⟨q3, by simp; exact Ne.symm h2.2⟩⟩
  | draw t =>
    refine ⟨hW.rp.sublist List.filter_sublist, psort_rise (nodup_dd _), fun a ha => hW.lo a (List.mem_filter.mp ha).1, fun u hu => ?_⟩
    rw [show (behW W (.draw t)).2 = psort (dd (W.2.filterMap (dTie t.1 t.2))) from rfl, mem_psort, mem_dd, List.mem_filterMap] at hu
    obtain ⟨v, hv, e⟩ := hu
    obtain ⟨q1, q2, q3⟩ := dTie_some hW hd hv e
    exact ⟨q1, List.mem_filter.mpr ⟨q2.1, by simpa using q2.2⟩, List.mem_filter.mpr ⟨q3.1, by simpa using q3.2⟩⟩
theorem beh_len {W : Web} (d : Dd) : (behW W d).1.length ≤ W.1.length ∧ (behW W d).2.length ≤ W.2.length := by
  cases d with
  | cut t => exact ⟨Nat.le_refl _, List.length_filter_le _ _⟩
  | drop p => exact ⟨List.length_filter_le _ _, List.length_filter_le _ _⟩
  | draw t =>
    refine ⟨List.length_filter_le _ _, ?_⟩
    show (psort (dd (W.2.filterMap (dTie t.1 t.2)))).length ≤ _
    rw [psort_length]
    exact Nat.le_trans (dd_len _) (List.length_filterMap_le _ _)
/-! the words -/
theorem w1 : decide (cutS = Str.ofString "cut") = true := decide_eq_true rfl
theorem w2 : decide (drawS = Str.ofString "cut") = false := by decide +kernel
theorem w3 : decide (dropS = Str.ofString "cut") = false := by decide +kernel
theorem w4 : decide (drawS = Str.ofString "draw") = true := decide_eq_true rfl
theorem w5 : decide (dropS = Str.ofString "draw") = false := by decide +kernel
section
variable {S : Sto}
theorem hd2 {w : Str} {r : List PyData} : gIx (.d (.tuple (.str w :: r))) (.d (.int 0)) S = .ok (.d (.str w)) S := by simp
theorem tl2 {w : Str} {r : List PyData} : gSl (.d (.tuple (.str w :: r))) (some 1) none S = .ok (.d (.tuple r)) S := by
  rw [o_slT, cut_from (by decide)]
  rfl
def dT (o : Option (Int × Int)) : PyData := match o with
  | some u => pP u
  | none => .none
theorem drawn_tie_eq (t : Int × Int) (a b : Int) : m_drawn_tie [.d (pP t), .d (.int a), .d (.int b)] S = .ok (.d (dT (dTie a b t))) S := by
  have hz : (1000 : Nat) ≤ sizeLine := by decide
  suffices h : wp (m_drawn_tie [.d (pP t), .d (.int a), .d (.int b)] S) fun v S' => v = .d (dT (dTie a b t)) ∧ S' = S by
    obtain ⟨v, S', e, rfl, rfl⟩ := h.ex
    exact e
  refine wp_fn rfl ?_
  refine wp_seqN fun K kn => ?_
  rw [e_sAsg, comp_map [t.1, t.2] PyData.int (fun z => .int (mvv a b z)) (s := ⟨[.int t.1, .int t.2], []⟩) (by simp) rfl gok_nil (by simp; omega) (fun z _ => ⟨_, by simp [wipeE]; rfl, rfl, .d (.int (mvv a b z)), by
    by_cases c : z = b
    · simp [c, mvv]
    · have c' : (z == b) = false := beq_false_of_ne c
      simp [c', c, mvv], rfl⟩)]
  simp [bTupL]
  refine kn _ _ ?_
  clear kn K
  refine wp_seq fun K kn kr => ?_
  by_cases c : mvv a b t.1 = mvv a b t.2
  · simp [c]
    exact kr _ _ (wp_out_d ⟨by simp [dTie, mmP, dT, c], by simp⟩)
  · have c' : (mvv a b t.1 == mvv a b t.2) = false := beq_false_of_ne c
    simp [c']
    refine kn _ _ ?_
    simp
    simp [dTie, mmP, dT, c]
    rfl
theorem together_eq {W : Web} (hW : IsWeb W) (h1 : W.1.length ≤ 24) (h2 : W.2.length ≤ 60) {t : Int × Int} (ht : t ∈ W.2) : m_drawn_together [.d (pW W), .d (.int t.1), .d (.int t.2)] S = .ok (.d (pW (behW W (.draw t)))) S := by
  have hz : (1000 : Nat) ≤ sizeLine := by decide
  suffices h : wp (m_drawn_together [.d (pW W), .d (.int t.1), .d (.int t.2)] S) fun v S' => v = .d (pW (behW W (.draw t))) ∧ S' = S by
    obtain ⟨v, S', e, rfl, rfl⟩ := h.ex
    exact e
  refine wp_fn rfl ?_
  refine wp_seqN fun K kn => ?_
  rw [e_sSet, comp_map W.2 pP (fun u => dT (dTie t.1 t.2 u)) (s := ⟨dP W.2, []⟩) (by simp) rfl gok_nil (by omega) (fun u _ => ⟨_, by simp [wipeE]; rfl, rfl, _, by simp; exact drawn_tie_eq u t.1 t.2, rfl⟩)]
  simp
  refine kn _ _ ?_
  clear kn K
  refine wp_seqN fun K kn => ?_
  have e1 : W.2.map (fun u => dT (dTie t.1 t.2 u)) = (W.2.map (dTie t.1 t.2)).map dT := by simp
  have e2 : ((W.2.map (dTie t.1 t.2)).filter (fun o => o.isSome)).map dT = dP (W.2.filterMap (dTie t.1 t.2)) := by
    generalize W.2 = ts
    induction ts with
    | nil => rfl
    | cons u ts ih =>
      rw [List.map_cons, List.filter_cons, List.filterMap_cons]
      cases h : dTie t.1 t.2 u with
      | none => simpa using ih
      | some v => simpa [dT] using ih
  rw [e1, e_sSet, e_SorS, comp_pure (W.2.map (dTie t.1 t.2)) dT (fun o => o.isSome) dT (s := ⟨(W.2.map (dTie t.1 t.2)).map dT, []⟩) (by simp) rfl gok_nil (by simp; omega) (fun o _ => ⟨_, by simp [wipeE]; rfl, by
    cases o <;> simp [dT, isNone, pP], fun _ => ⟨_, by simp; rfl, rfl⟩⟩)]
  rw [e2]
  have fl : (W.2.filterMap (dTie t.1 t.2)).length ≤ W.2.length := List.length_filterMap_le _ _
  have so : gSorS (.d (.list (dP (W.2.filterMap (dTie t.1 t.2))))) S = .ok (.f (.lst (dP (psort (dd (W.2.filterMap (dTie t.1 t.2))))))) S := sorS_P (t := false) (g := []) rfl (by omega) (fun u hu => by
    obtain ⟨v, hv, e⟩ := List.mem_filterMap.mp hu
    obtain ⟨q1, q2, q3⟩ := dTie_some hW ht hv e
    have a1 := hW.lo _ q2.1
    have a2 := hW.lo _ q3.1
    omega)
  simp [so]
  refine kn _ _ ?_
  clear kn K
  rw [e_sRt, e_Tup, e_aCons, e_Call, e_aCons, comp_pure W.1 PyData.int (fun p => !decide (p = t.2)) PyData.int (s := ⟨dI W.1, []⟩) (by simp) rfl gok_nil (by omega) (fun p _ => ⟨_, by simp [wipeE]; rfl, by
    by_cases c : p = t.2
    · simp [c]
    · have c' : (p == t.2) = false := beq_false_of_ne c
      simp [c, c'], fun _ => ⟨_, by simp; rfl, rfl⟩⟩)]
  simp
  rfl
/-- the web behind a deed -/
theorem behind_eq {W : Web} (hW : IsWeb W) (h1 : W.1.length ≤ 24) (h2 : W.2.length ≤ 60) {d : Dd} (hd : DdOk W d) : m_behind [.d (pW W), .d (encDd d)] S = .ok (.d (pW (behW W d))) S := by
  have hz : (1000 : Nat) ≤ sizeLine := by decide
  suffices h : wp (m_behind [.d (pW W), .d (encDd d)] S) fun v S' => v = .d (pW (behW W d)) ∧ S' = S by
    obtain ⟨v, S', e, rfl, rfl⟩ := h.ex
    exact e
  refine wp_fn rfl ?_
  refine wp_seq fun K kn kr => ?_
  cases d with
  | cut t =>
    simp only [encDd, e_sIf, e_tst, e_2, e_V, e_K, List.map_cons, List.map_nil, List.cons_append, List.getElem?_cons_zero, List.getElem?_cons_succ, bind_ok, th_d, hd2, o_eqS, w1, if_true]
    rw [e_sRt, e_Tup, e_aCons, e_2]
    simp only [e_V, e_K, List.getElem?_cons_zero, List.getElem?_cons_succ, bind_ok, th_d, ix_W0]
    rw [e_aCons, e_Call, e_aCons, comp_pure W.2 pP (fun u => !decide (u = t)) pP (s := ⟨dP W.2, []⟩) (by simp) rfl gok_nil (by omega) (fun u _ => ⟨_, by simp [wipeE]; rfl, by
      have en : gNe (.d (pP u)) (.d (.tuple [.int t.1, .int t.2])) S = .ok (.d (.bool (!decide (u = t)))) S := encP.ne u t
      have ec : MV.cutD [.str cutS, .int t.1, .int t.2] (some 1) none = [.int t.1, .int t.2] := cut_from (by decide)
      simp [ec, en], fun _ => ⟨_, by simp; rfl, rfl⟩⟩)]
    simp
    exact kr _ _ (wp_out_d ⟨rfl, by simp⟩)
  | draw t =>
    simp only [encDd, e_sIf, e_tst, e_2, e_V, e_K, List.map_cons, List.map_nil, List.cons_append, List.getElem?_cons_zero, List.getElem?_cons_succ, bind_ok, th_d, hd2, o_eqS, w2, Bool.false_eq_true, if_false, e_sNil, wp_ok]
    refine kn _ _ ?_
    clear kn kr K
    refine wp_seq fun K kn kr => ?_
    simp only [encDd, e_sIf, e_tst, e_2, e_V, e_K, List.map_cons, List.map_nil, List.cons_append, List.getElem?_cons_zero, List.getElem?_cons_succ, bind_ok, th_d, hd2, o_eqS, w4, if_true]
    simp [together_eq hW h1 h2 (show t ∈ W.2 from hd)]
    exact kr _ _ (wp_out_d ⟨rfl, by simp⟩)
  | drop p =>
    simp only [encDd, e_sIf, e_tst, e_2, e_V, e_K, List.map_cons, List.map_nil, List.cons_append, List.getElem?_cons_zero, List.getElem?_cons_succ, bind_ok, th_d, hd2, o_eqS, w3, Bool.false_eq_true, if_false, e_sNil, wp_ok]
    refine kn _ _ ?_
    clear kn kr K
    refine wp_seq fun K kn kr => ?_
    simp only [encDd, e_sIf, e_tst, e_2, e_V, e_K, List.map_cons, List.map_nil, List.cons_append, List.getElem?_cons_zero, List.getElem?_cons_succ, bind_ok, th_d, hd2, o_eqS, w5, Bool.false_eq_true, if_false, e_sNil, wp_ok]
    refine kn _ _ ?_
    clear kn kr K
    refine wp_seqN fun K kn => ?_
    rw [e_sSet, e_Call, e_aCons, comp_pure W.1 PyData.int (fun q => !decide (q = p)) PyData.int (s := ⟨dI W.1, []⟩) (by simp) rfl gok_nil (by omega) (fun q _ => ⟨_, by simp [wipeE]; rfl, by
      by_cases c : q = p
      · simp [c]
      · have c' : (q == p) = false := beq_false_of_ne c
        simp [c, c'], fun _ => ⟨_, by simp; rfl, rfl⟩⟩)]
    simp
    refine kn _ _ ?_
    clear kn K
    rw [e_sRt, e_Tup, e_aCons, e_V]
    simp only [List.getElem?_cons_zero, List.getElem?_cons_succ, bind_ok, th_d]
    rw [e_aCons, e_Call, e_aCons, comp_pure W.2 pP (fun u => !decide (p ∈ [u.1, u.2])) pP (s := ⟨dP W.2, []⟩) (by simp) rfl gok_nil (by omega) (fun u _ => ⟨_, by simp [wipeE]; rfl, by
      have en : gNotIn (.d (.int p)) (.d (pP u)) S = .ok (.d (.bool (!decide (p ∈ [u.1, u.2])))) S := encInt.notInT p [u.1, u.2]
      simp [en], fun _ => ⟨_, by simp; rfl, rfl⟩⟩)]
    simp [behW, pW, pTs, pT]
end
def oth (g a : Int) (v : Int × Int) : Int × Int := (if a < v.1 + v.2 - g then a else v.1 + v.2 - g, if a > v.1 + v.2 - g then a else v.1 + v.2 - g)
theorem draw_mem {W : Web} (hW : IsWeb W) {a b : Int} (hab : (a, b) ∈ W.2) (u : Int × Int) :
    (u ∈ W.2.filter (fun v => !decide (b ∈ [v.1, v.2])) ∨ ∃ v ∈ W.2, (b ∈ [v.1, v.2] ∧ a ∉ [v.1, v.2]) ∧ u = oth b a v) ↔ u ∈ W.2.filterMap (dTie a b) := by
  have hn := (hW.lt _ hab).1
  dsimp only at hn
  rw [List.mem_filterMap]
  have key : ∀ v ∈ W.2, (b ∉ [v.1, v.2] → dTie a b v = some v) ∧ (b ∈ [v.1, v.2] → a ∈ [v.1, v.2] → dTie a b v = none) ∧ (b ∈ [v.1, v.2] → a ∉ [v.1, v.2] → dTie a b v = some (oth b a v)) := fun v hv => by
    have hl := (hW.lt v hv).1
    obtain ⟨x, y⟩ := v
    dsimp only at hl
    simp only [List.mem_cons, List.not_mem_nil, or_false]
    have m1 : ∀ z, z = b → mvv a b z = a := fun z h => if_pos h
    have m2 : ∀ z, z ≠ b → mvv a b z = z := fun z h => if_neg h
    have ms : ∀ z w : Int, z ≠ w → mmP z w = some (if w < z then w else z, if w > z then w else z) := fun z w h => if_neg h
    have mn : ∀ z : Int, mmP z z = none := fun z => if_pos rfl
    unfold dTie
    dsimp only
    refine ⟨fun h => ?_, fun h k => ?_, fun h k => ?_⟩
    · rw [m2 x (by omega), m2 y (by omega), ms _ _ (by omega), if_neg (by omega), if_pos (by omega)]
    · by_cases q : x = b
      · rw [m1 x q, m2 y (by omega), show y = a by omega, mn]
      · rw [m1 y (by omega), m2 x q, show x = a by omega, mn]
    · unfold oth
      dsimp only
      by_cases q : x = b
      · rw [m1 x q, m2 y (by omega), ms _ _ (by omega), show x + y - b = y by omega]
        rcases Int.lt_or_gt_of_ne (show a ≠ y by omega) with r | r
        · rw [if_neg (by omega), if_pos (by omega), if_pos (by omega), if_neg (by omega)]
        · rw [if_pos (by omega), if_neg (by omega), if_neg (by omega), if_pos (by omega)]
      · rw [m1 y (by omega), m2 x q, ms _ _ (by omega), show x + y - b = x by omega]
  constructor
  · rintro (h | ⟨v, hv, ⟨h1, h2⟩, rfl⟩)
    · obtain ⟨h1, h2⟩ := List.mem_filter.mp h
      exact ⟨u, h1, (key u h1).1 (by simpa using h2)⟩
    · exact ⟨v, hv, (key v hv).2.2 h1 h2⟩
  · rintro ⟨v, hv, e⟩
    by_cases c : b ∈ [v.1, v.2]
    · by_cases d : a ∈ [v.1, v.2]
      · rw [(key v hv).2.1 c d] at e
        cases e
      · rw [(key v hv).2.2 c d] at e
        exact .inr ⟨v, hv, ⟨c, d⟩, (Option.some.inj e).symm⟩
    · rw [(key v hv).1 c] at e
      cases Option.some.inj e
      exact .inl (List.mem_filter.mpr ⟨hv, by simpa using c⟩)
section
variable {S : Sto}
theorem l_behind_eq {W : Web} (hW : IsWeb W) (h1 : W.1.length ≤ 24) (h2 : W.2.length ≤ 60) {d : Dd} (hd : DdOk W d) : m_l_behind [.d (pW W), .d (encDd d)] S = .ok (.d (pW (behW W d))) S := by
  have hz : (1000 : Nat) ≤ sizeLine := by decide
  suffices h : wp (m_l_behind [.d (pW W), .d (encDd d)] S) fun v S' => v = .d (pW (behW W d)) ∧ S' = S by
    obtain ⟨v, S', e, rfl, rfl⟩ := h.ex
    exact e
  refine wp_fn rfl ?_
  refine wp_seq fun K kn kr => ?_
  have plc : ∀ (g : Int) (v1 v3 v4 v5 v6 v7 : Option Val) (T : Sto), evComp (iSeq (ev2 gIx (evV 0) (evK (.int 0)))) (bName 8) (tst (ev2 gNe (evV 8) (evV 2))) (evV 8) [8] [some (.d (pW W)), v1, some (.d (.int g)), v3, v4, v5, v6, v7, none] T = .ok (.f (.lst (dI (W.1.filter fun p => !decide (p = g))))) T := fun g v1 v3 v4 v5 v6 v7 T =>
    comp_pure W.1 PyData.int (fun p => !decide (p = g)) PyData.int (s := ⟨dI W.1, []⟩) (by simp) rfl gok_nil (by omega) (fun p _ => ⟨_, by simp [wipeE]; rfl, by
      by_cases c : p = g
      · simp [c]
      · have c' : (p == g) = false := beq_false_of_ne c
        simp [c, c'], fun _ => ⟨_, by simp; rfl, rfl⟩⟩)
  have dic : ∀ (g : Int) (v1 : Option Val) (T : Sto), evCall gDictT (aCons (evComp (iSeq (ev2 gIx (evV 0) (evK (.int 1)))) (bName 6) (tst (ev2 gNotIn (evV 2) (evV 6))) (evTup (aCons (evV 6) (aCons (evK (.bool true)) (aNil)))) [6]) (aNil)) [some (.d (pW W)), v1, some (.d (.int g)), none, none, none, none, none, none] T
      = .ok (.f (.dtp (tks ((W.2.filter fun v => !decide (g ∈ [v.1, v.2])).foldl addT [])))) T := fun g v1 T => by
    rw [e_Call, e_aCons, comp_pure W.2 pP (fun v => !decide (g ∈ [v.1, v.2])) (fun u => .tuple [pP u, .bool true]) (s := ⟨dP W.2, []⟩) (by simp) rfl gok_nil (by omega) (fun u _ => ⟨_, by simp [wipeE]; rfl, by
      have en : gNotIn (.d (.int g)) (.d (pP u)) T = .ok (.d (.bool (!decide (g ∈ [u.1, u.2])))) T := encInt.notInT g [u.1, u.2]
      simp [en], fun _ => ⟨_, by simp; rfl, rfl⟩⟩)]
    simp only [bind_ok, th_f, data_lst, e_aNil, td_dict]
  cases d with
  | cut t =>
    simp only [encDd, e_sIf, e_tst, e_2, e_V, e_K, List.map_cons, List.map_nil, List.cons_append, List.getElem?_cons_zero, List.getElem?_cons_succ, bind_ok, th_d, hd2, o_eqS, w1, if_true]
    rw [e_sRt, e_Tup, e_aCons, e_2]
    simp only [e_V, e_K, List.getElem?_cons_zero, List.getElem?_cons_succ, bind_ok, th_d, ix_W0]
    rw [e_aCons, e_Call, e_aCons, comp_pure W.2 pP (fun u => !decide (u = t)) pP (s := ⟨dP W.2, []⟩) (by simp) rfl gok_nil (by omega) (fun u _ => ⟨_, by simp [wipeE]; rfl, by
      have en : gNe (.d (pP u)) (.d (.tuple [.int t.1, .int t.2])) S = .ok (.d (.bool (!decide (u = t)))) S := encP.ne u t
      have ec : MV.cutD [.str cutS, .int t.1, .int t.2] (some 1) none = [.int t.1, .int t.2] := cut_from (by decide)
      simp [ec, en], fun _ => ⟨_, by simp; rfl, rfl⟩⟩)]
    simp
    exact kr _ _ (wp_out_d ⟨rfl, by simp⟩)
  | drop p =>
    simp only [encDd, e_sIf, e_tst, e_2, e_V, e_K, List.map_cons, List.map_nil, List.cons_append, List.getElem?_cons_zero, List.getElem?_cons_succ, bind_ok, th_d, hd2, o_eqS, w3, Bool.false_eq_true, if_false, e_sNil, wp_ok]
    refine kn _ _ ?_
    clear kn kr K
    refine wp_seqN fun K kn => ?_
    have el : atI [PyData.str dropS, .int p] (-1) = some (.int p) := rfl
    simp [el]
    refine kn _ _ ?_
    clear kn K
    refine wp_seqN fun K kn => ?_
    rw [e_sCell]
    simp only [List.replicate, dic, bind_ok, wp_ok, List.set_cons_zero, List.set_cons_succ]
    refine kn _ _ ?_
    clear kn K
    have hfd := addT_fold (ts := W.2.filter fun v => !decide (p ∈ [v.1, v.2])) (us := []) (by simp)
    generalize hus : (W.2.filter fun v => !decide (p ∈ [v.1, v.2])).foldl addT [] = us at hfd
    have hc : (S ++ [Cell.dtp (tks us)])[S.length]? = some (.dtp (tks us)) := by simp
    have ul : us.length ≤ 60 := Nat.le_trans (sub_len hfd.1 (ys := W.2) fun u hu => by
      have := (hfd.2 u).mp hu
      simp at this
      exact this.1) h2
    refine wp_seqN fun K kn => ?_
    simp only [e_sIf, e_tst, e_2, e_V, e_K, List.getElem?_cons_zero, List.getElem?_cons_succ, bind_ok, th_d, hd2, o_eqS, w5, Bool.false_eq_true, if_false, e_sNil, wp_ok]
    refine kn _ _ ?_
    clear kn K
    rw [e_sRt, e_Tup, e_aCons, e_Call, e_aCons, plc]
    simp [td_sorted hc (.inl rfl) (by omega)]
    have : psort us = W.2.filter fun v => !decide (p ∈ [v.1, v.2]) := risep_ext (psort_rise hfd.1) (hW.rt.sublist List.filter_sublist) fun u => by rw [mem_psort, hfd.2]; simp
    rw [this]
    simp [behW, pW, pTs, pT]
  | draw t =>
    simp only [encDd, e_sIf, e_tst, e_2, e_V, e_K, List.map_cons, List.map_nil, List.cons_append, List.getElem?_cons_zero, List.getElem?_cons_succ, bind_ok, th_d, hd2, o_eqS, w2, Bool.false_eq_true, if_false, e_sNil, wp_ok]
    refine kn _ _ ?_
    clear kn kr K
    refine wp_seqN fun K kn => ?_
    have el : atI [PyData.str drawS, .int t.1, .int t.2] (-1) = some (.int t.2) := rfl
    simp [el]
    refine kn _ _ ?_
    clear kn K
    refine wp_seqN fun K kn => ?_
    rw [e_sCell]
    simp only [List.replicate, dic, bind_ok, wp_ok, List.set_cons_zero, List.set_cons_succ]
    refine kn _ _ ?_
    clear kn K
    have hfd := addT_fold (ts := W.2.filter fun v => !decide (t.2 ∈ [v.1, v.2])) (us := []) (by simp)
    generalize hus : (W.2.filter fun v => !decide (t.2 ∈ [v.1, v.2])).foldl addT [] = us at hfd
    have ul : us.length ≤ 60 := Nat.le_trans (sub_len hfd.1 (ys := W.2) fun u hu => by
      have := (hfd.2 u).mp hu
      simp at this
      exact this.1) h2
    refine wp_seqN fun K kn => ?_
    simp only [e_sIf, e_tst, e_2, e_V, e_K, List.getElem?_cons_zero, List.getElem?_cons_succ, bind_ok, th_d, hd2, o_eqS, w4, if_true]
    refine wp_forK (fun (pre : List (Int × Int)) ρ T => ∃ vs c o4 o5 o7, ρ = [some (.d (pW W)), some (.d (.tuple [.str drawS, .int t.1, .int t.2])), some (.d (.int t.2)), some (.c S.length), o4, o5, none, o7, none] ∧ T = S ++ [c] ∧ TD c vs ∧ vs.Nodup ∧ vs.length ≤ 60 + pre.length ∧
        ∀ u, u ∈ vs ↔ u ∈ us ∨ ∃ v ∈ pre, (t.2 ∈ [v.1, v.2] ∧ t.1 ∉ [v.1, v.2]) ∧ u = oth t.2 t.1 v) W.2 pP (s := ⟨dP W.2, []⟩) (S1 := S ++ [.dtp (tks us)]) (by simp) rfl (fun _ _ _ _ => gok_nil) ⟨us, _, none, none, none, rfl, rfl, .inl rfl, hfd.1, by simpa using ul, by simp⟩ ?_ ?_
    · rintro pre v post ρ T e ⟨vs, c, o4, o5, o7, rfl, rfl, td, nd, vl, hm⟩
      have lp : pre.length < 60 := by
        have := congrArg List.length e
        simp at this
        omega
      refine ⟨_, rfl, fun K2 k2 k3 => ?_⟩
      have e1 : gIn (.d (.int t.2)) (.d (.tuple [.int v.1, .int v.2])) (S ++ [c]) = .ok (.d (.bool (decide (t.2 ∈ [v.1, v.2])))) (S ++ [c]) := encInt.inT t.2 [v.1, v.2]
      have e2 : gNotIn (.d (.int t.1)) (.d (.tuple [.int v.1, .int v.2])) (S ++ [c]) = .ok (.d (.bool (!decide (t.1 ∈ [v.1, v.2])))) (S ++ [c]) := encInt.notInT t.1 [v.1, v.2]
      by_cases cc : t.2 ∈ [v.1, v.2] ∧ t.1 ∉ [v.1, v.2]
      · rw [decide_eq_true cc.1] at e1
        rw [decide_eq_false cc.2] at e2
        obtain ⟨c', hp, td'⟩ := td_put (S := S ++ [c]) (n := S.length) (t := oth t.2 t.1 v) (by simp) td (by omega)
        have hp' : gPutT (.c S.length) (.d (.tuple [.int (if t.1 < v.1 + v.2 - t.2 then t.1 else v.1 + v.2 - t.2), .int (if v.1 + v.2 - t.2 < t.1 then t.1 else v.1 + v.2 - t.2)])) (.d (.bool true)) (S ++ [c]) = some ((S ++ [c]).set S.length c') := hp
        simp [e1, e2, hp']
        refine k2 _ _ ⟨addT vs (oth t.2 t.1 v), c', _, _, _, rfl, rfl, td', addT_nodup nd, ?_, fun u => ?_⟩
        · have := addT_len (ts := vs) (t := oth t.2 t.1 v)
          simp
          omega
        · rw [addT_mem, hm u]
          constructor
          · rintro ((h | ⟨w, hw, h⟩) | h)
            · exact .inl h
            · exact .inr ⟨w, List.mem_append_left _ hw, h⟩
            · exact .inr ⟨v, by simp, cc, h⟩
          · rintro (h | ⟨w, hw, h⟩)
            · exact .inl (.inl h)
            · rcases List.mem_append.mp hw with hw | hw
              · exact .inl (.inr ⟨w, hw, h⟩)
              · rw [List.mem_singleton.mp hw] at h
                exact .inr h.2
      · have keep : K2 (.nx [some (.d (pW W)), some (.d (.tuple [.str drawS, .int t.1, .int t.2])), some (.d (.int t.2)), some (.c S.length), some (.d (.int v.1)), some (.d (.int v.2)), none, o7, none]) (S ++ [c]) := by
          refine k2 _ _ ⟨vs, c, _, _, _, rfl, rfl, td, nd, by simp; omega, fun u => ?_⟩
          rw [hm u]
          constructor
          · rintro (h | ⟨w, hw, h⟩)
            · exact .inl h
            · exact .inr ⟨w, List.mem_append_left _ hw, h⟩
          · rintro (h | ⟨w, hw, h⟩)
            · exact .inl h
            · rcases List.mem_append.mp hw with hw | hw
              · exact .inr ⟨w, hw, h⟩
              · rw [List.mem_singleton.mp hw] at h
                exact (cc h.1).elim
        by_cases c1 : t.2 ∈ [v.1, v.2]
        · have c2 : t.1 ∈ [v.1, v.2] := Classical.byContradiction fun q => cc ⟨c1, q⟩
          rw [decide_eq_true c1] at e1
          rw [decide_eq_true c2] at e2
          simp [e1, e2]
          exact keep
        · rw [decide_eq_false c1] at e1
          simp [e1]
          exact keep
    · rintro ρ T ⟨vs, c, o4, o5, o7, rfl, rfl, td, nd, vl, hm⟩
      refine kn _ _ ?_
      clear kn K
      rw [e_sRt, e_Tup, e_aCons, e_Call, e_aCons, plc]
      simp [td_sorted (S := S ++ [c]) (n := S.length) (by simp) td (by omega)]
      have : psort vs = psort (dd (W.2.filterMap (dTie t.1 t.2))) := risep_ext (psort_rise nd) (psort_rise (nodup_dd _)) fun u => by
        rw [mem_psort, mem_psort, mem_dd, ← draw_mem hW hd u, hm u, hfd.2]
        simp
      rw [this]
      rfl
end
end Z
set_option Elab.async false
set_option linter.all false
set_option maxRecDepth 100000
set_option maxHeartbeats 1000000
namespace Z
open PySem PySem.Spec PyProof.Rows L2 MV
theorem two_three (k : Int) (S : Sto) : gNotIn (.d (.int k)) (.d (.tuple [.int 2, .int 3])) S = .ok (.d (.bool (!decide (k ∈ [2, 3])))) S := encInt.notInT k [2, 3]
theorem deedI_len {W : Web} {w : Str} {ns : List Int} (h1 : ns.length ≠ 1) (h2 : ns.length ≠ 2) : deedI W w ns = false := by
  unfold deedI
  split
  · exact tieI_len h2
  · match ns, h1 with
    | [], _ => simp [onlyB]
    | [_], h => simp at h
    | _ :: _ :: _, _ => simp [onlyB]
theorem deedB_len {W : Web} {ds : List PyData} (h2 : ds.length ≠ 2) (h3 : ds.length ≠ 3) : deedB W (.tuple ds) = false := by
  match ds, h2, h3 with
  | [], _, _ => simp [deedB]
  | [_], _, _ => simp [deedB]
  | h :: d :: r, h2, h3 =>
    cases h with
    | str w =>
      by_cases c : (d :: r).all isI = true
      · obtain ⟨ns, e⟩ := all_isI c
        have l : ns.length = r.length + 1 := by
          have := congrArg List.length e
          simp at this
          omega
        rw [List.length_cons, List.length_cons] at h2 h3
        show ((d :: r).all isI && deedI W w ((intsOf (d :: r)).getD [])) = false
        have n1 : ns.length ≠ 1 := fun q => h2 (by omega)
        have n2 : ns.length ≠ 2 := fun q => h3 (by omega)
        rw [e, ints_dI, Option.getD_some, deedI_len n1 n2, Bool.and_false]
      · have c' : (d :: r).all isI = false := by simpa using c
        show ((d :: r).all isI && deedI W w ((intsOf (d :: r)).getD [])) = false
        rw [c']
        rfl
    | _ => rfl
theorem l_is_deed_eq {W : Web} {x : PyData} (hs : sl 900 x = true) (hw : ∀ w r, x = .tuple (.str w :: r) → PyData.strOk w = true) (S : Sto) : m_l_is_deed [.d (pW W), .d x] S = .ok (.d (.bool (deedB W x))) S := by
  have hz := hz
  suffices h : wp (m_l_is_deed [.d (pW W), .d x] S) fun v S' => v = .d (.bool (deedB W x)) ∧ S' = S by
    obtain ⟨v, S', e, rfl, rfl⟩ := h.ex
    exact e
  refine wp_fn rfl ?_
  refine wp_seq fun K kn kr => ?_
  have bad : deedB W x = false → K (.rt (.d (.bool false))) S := fun no => kr _ _ (wp_out_d ⟨by rw [no], by simp⟩)
  cases x with
  | tuple ds =>
    obtain ⟨hl, -⟩ := sl_tup hs
    by_cases c23 : (ds.length : Int) ∈ [2, 3]
    · have tt := two_three (ds.length : Int) S
      rw [decide_eq_true c23] at tt
      match ds, hl, bad, c23, tt with
      | [], _, _, c, _ => simp at c
      | [_], _, _, c, _ => simp at c
      | h :: d :: r, hl, bad, c, tt =>
        have tt' : gNotIn (.d (.int ((r.length : Int) + 1 + 1))) (.d (.tuple [.int 2, .int 3])) S = .ok (.d (.bool false)) S := by
          have e : (((h :: d :: r).length : Nat) : Int) = (r.length : Int) + 1 + 1 := by simp
          rw [e] at tt
          exact tt
        have rl : r = [] ∨ ∃ b, r = [b] := by
          match r, c with
          | [], _ => exact .inl rfl
          | [b], _ => exact .inr ⟨b, rfl⟩
          | _ :: _ :: _, c => simp at c; omega
        clear tt c
        cases h with
        | str w =>
          simp [kind, isOf, tt']
          refine kn _ _ ?_
          have ow := hw w _ rfl
          refine wp_seq fun K kn kr => ?_
          have bad : deedB W (.tuple (.str w :: d :: r)) = false → K (.rt (.d (.bool false))) S := fun no => kr _ _ (wp_out_d ⟨by rw [no], by simp⟩)
          have cf : MV.cutD (PyData.str w :: d :: r) (some 1) none = d :: r := cut_from (by decide)
          simp at hl
          simp [cf]
          rw [comp_map (d :: r) id (fun d => .bool (isI d)) (s := ⟨d :: r, []⟩) (by simp [cf]) (by simp) gok_nil (by simp; omega) (fun d hd => ⟨_, by simp [wipeE]; rfl, by simp, .d (.bool (isI d)), by cases d <;> simp [kind, isOf, isI], rfl⟩)]
          simp only [bind_ok, th_f, all_eq]
          by_cases c : (d :: r).all isI = true
          · obtain ⟨ns, e⟩ := all_isI c
            obtain ⟨n, ns', rfl, rfl⟩ : ∃ n ns', d = .int n ∧ r = dI ns' := by
              cases ns with
              | nil => cases e
              | cons n ns' => simp at e; exact ⟨n, ns', e.1, e.2⟩
            simp only [c]
            simp
            refine kn _ _ ?_
            have it : ∀ T : Sto, gIn (.d (.tuple (.int n :: dI ns'))) (.d (pTs W.2)) T = .ok (.d (.bool (tieI W (n :: ns')))) T := fun T => in_ties W (n :: ns') T
            have dB : deedB W (.tuple (.str w :: .int n :: dI ns')) = deedI W w (n :: ns') := deedB_I W w n ns'
            rw [dB]
            have tt := in_tied ow S
            have ip := in_P W.1 n S
            have ds : (Str.ofString "drop") = dropS := rfl
            have nd : dropS ∉ [cutS, drawS] := by decide +kernel
            rcases rl with rl | ⟨b, rl⟩
            · obtain rfl : ns' = [] := by simpa using rl
              have z : deedI W w [n] = (decide (w = dropS) && decide (n ∈ W.1)) := by
                unfold deedI
                split
                · rename_i m
                  rw [tieI_len (by simp), decide_eq_false (fun q : w = dropS => nd (by rw [← q]; exact m))]
                  rfl
                · rfl
              rw [z]
              refine wp_seq fun K kn kr => ?_
              by_cases cd : w = dropS
              · simp [ds, cd, ip]
                exact kr _ _ (wp_out_d ⟨by simp [cd], by simp⟩)
              · simp [ds, cd]
                exact kr _ _ (wp_out_d ⟨by simp [cd], by simp⟩)
            · obtain ⟨m, rfl⟩ : ∃ m, ns' = [m] := by
                match ns', rl with
                | [m], _ => exact ⟨m, rfl⟩
                | [], h => simp at h
                | _ :: _ :: _, h => simp at h
              have z : deedI W w [n, m] = (decide (w ∈ [cutS, drawS]) && tieI W [n, m]) := by
                unfold deedI
                split
                · rename_i q; rw [decide_eq_true q]; rfl
                · rename_i q; rw [decide_eq_false q]; simp [onlyB]
              rw [z]
              refine wp_seqN fun K kn => ?_
              simp
              refine kn _ _ ?_
              by_cases ct : w ∈ [cutS, drawS]
              · rw [decide_eq_true ct] at tt ⊢
                have cf2 : MV.cutD [PyData.str w, .int n, .int m] (some 1) none = [.int n, .int m] := rfl
                have it2 : ∀ T : Sto, gIn (.d (.tuple [.int n, .int m])) (.d (pTs W.2)) T = .ok (.d (.bool (tieI W [n, m]))) T := it
                simp [tt, cf2, it2]
              · rw [decide_eq_false ct] at tt ⊢
                simp [tt]
          · have c' : (d :: r).all isI = false := by simpa using c
            simp only [c']
            simp
            exact bad (by show ((d :: r).all isI && _) = false; rw [c']; rfl)
        | _ =>
          simp [kind, isOf, tt']
          exact bad rfl
    · have tt := two_three (ds.length : Int) S
      rw [decide_eq_false c23] at tt
      simp [kind, isOf, tt]
      exact bad (deedB_len (fun q => c23 (by rw [q]; simp)) (fun q => c23 (by rw [q]; simp)))
  | _ =>
    simp [kind, isOf]
    exact bad rfl
end Z
set_option Elab.async false
set_option linter.all false
set_option maxRecDepth 100000
set_option maxHeartbeats 1000000
namespace Z
open PySem PySem.Spec PyProof.Rows L2 MV
theorem at_exD {ds : List PyData} {r : Int} (h0 : 0 ≤ r) (h1 : r < ds.length) : ∃ y ∈ ds, atI ds r = some y :=
  ⟨ds[r.toNat]'(by omega), List.getElem_mem _, at_nat h0 (List.getElem?_eq_getElem _)⟩
theorem step_no {c : SB} {a g : Ss} {ρ : Envi} {S : Sto} {Q : Fw → Sto → Prop} (hc : c ρ S = .ok false S) (h : wp (g ρ S) Q) : wp (sSeq (sIf c a (sNil)) g ρ S) Q := by
  refine wp_seqN fun K kn => ?_
  rw [e_sIf, hc]
  simp
  exact kn _ _ h
theorem step_yes {c : SB} {e : Sx} {g : Ss} {ρ : Envi} {S : Sto} {Q : Fw → Sto → Prop} (hc : c ρ S = .ok true S) (h : wp (e ρ S) fun v S' => Q (.rt v) S') : wp (sSeq (sIf c (sRt e) (sNil)) g ρ S) Q := by
  refine wp_seq fun K kn kr => ?_
  rw [e_sIf, hc]
  simp only [bind_ok, if_true, e_sRt, wp_bind]
  refine h.mono fun v S' q => ?_
  rw [wp_ok]
  exact kr _ _ q
theorem step_in {c : SB} {a g : Ss} {ρ : Envi} {S : Sto} {Q : Fw → Sto → Prop} (hc : c ρ S = .ok true S) (h : wp (a ρ S) fun f S' => ∃ v, f = .rt v ∧ Q f S') : wp (sSeq (sIf c a (sNil)) g ρ S) Q := by
  refine wp_seq fun K kn kr => ?_
  rw [e_sIf, hc]
  simp only [bind_ok, if_true]
  refine h.mono ?_
  rintro f S' ⟨v, rfl, q⟩
  exact kr _ _ q
def gd (d : PyData) : Prop := sl 900 d = true ∧ ∀ w, d = .str w → PyData.strOk w = true
def Gd (d : PyData) : Prop := sl 900 d = true ∧ ∀ w r, d = .tuple (.str w :: r) → PyData.strOk w = true
theorem Gd_tup {ds : List PyData} (hl : ds.length ≤ 900) (h : ∀ d ∈ ds, gd d) : Gd (.tuple ds) := ⟨sl_mk hl fun d m => (h d m).1, fun w r e => by
  have e' : ds = .str w :: r := PyData.tuple.inj e
  exact (h _ (by rw [e']; simp)).2 w rfl⟩
theorem gd_tup {ds : List PyData} (hl : ds.length ≤ 900) (h : ∀ d ∈ ds, gd d) : gd (.tuple ds) := ⟨sl_mk hl fun d m => (h d m).1, fun w e => by cases e⟩
theorem gd_int (i : Int) : gd (.int i) := ⟨rfl, fun w e => by cases e⟩
theorem Gd_not {d : PyData} (h : ∀ ds, d ≠ .tuple ds) : Gd d := ⟨by cases d <;> first | rfl | exact absurd rfl (h _), fun w r e => absurd e (h _)⟩
theorem gd_str {w : Str} (h : PyData.strOk w = true) : gd (.str w) := ⟨rfl, fun v e => by cases e; exact h⟩
abbrev OddG (n : Nat) (S : Sto) (v : Val) (S' : Sto) : Prop := ∃ d l', v = .d d ∧ Gd d ∧ HL l' ∧ S' = S.set n (.lst l')
theorem odd_out {S T : Sto} {n : Nat} {d : PyData} {l' : List PyData} (h1 : Gd d) (h2 : HL l') (h3 : T = S.set n (.lst l')) : OddG n S (.d d) T := ⟨d, l', rfl, h1, h2, h3⟩
/-- a deed, as a row of data -/
def dRow (w : Str) (ns : List Int) : List PyData := .str w :: dI ns
theorem row_gd {w : Str} {ns : List Int} (hw : PyData.strOk w = true) : ∀ d ∈ dRow w ns, gd d := fun d hd => by
  rcases List.mem_cons.mp hd with rfl | hd
  · exact gd_str hw
  · obtain ⟨i, _, rfl⟩ := List.mem_map.mp hd
    exact gd_int i
theorem ok_w {w : Str} (hw : w ∈ [cutS, drawS, dropS]) : PyData.strOk w = true := by
  simp only [List.mem_cons, List.not_mem_nil, or_false] at hw
  rcases hw with rfl | rfl | rfl <;> decide +kernel
theorem txt_up {d : PyData} {n m : Nat} (h : Txt d n) (le : n ≤ m) : Txt d m := ⟨h.1, h.2.1, Nat.le_trans h.2.2 le⟩
theorem txt_w {w : Str} (hw : w ∈ [cutS, drawS, dropS]) : Txt (.str w) 4 := by
  simp only [List.mem_cons, List.not_mem_nil, or_false] at hw
  rcases hw with rfl | rfl | rfl <;> (refine ⟨?_, ?_, ?_⟩ <;> decide +kernel)
theorem str_row {w : Str} {ns : List Int} (hw : w ∈ [cutS, drawS, dropS]) (hn : ∀ n ∈ ns, 0 ≤ n ∧ n ≤ 99) (hl : ns.length ≤ 2) (S : Sto) : gStr [.d (.tuple (dRow w ns))] S = .ok (.d (.str (PyData.tuple (dRow w ns)).shown)) S := by
  have t := txt_tup (enc := id) (n := 4) (xs := dRow w ns) fun x hx => by
    rcases List.mem_cons.mp hx with rfl | hx
    · exact txt_w hw
    · obtain ⟨i, hi, rfl⟩ := List.mem_map.mp hx
      have := hn i hi
      exact txt_up (txt_int (by omega)) (by omega)
  rw [List.map_id] at t
  have f := t.fits (Nat.le_trans (Nat.mul_le_mul_left 5 (show (dRow w ns).length ≤ 3 by simp [dRow]; omega)) (by decide))
  have lay : ∀ ns : List Int, PyData.canLayAll0 (dI ns) = true := fun ns => lay_map (fun i => by simp [PyData.canLay0]) ns
  have dep : PyData.depthAll (dI ns) ≤ 1 := dep_map (fun i => by simp [PyData.depth]) ns
  have c : (PyData.tuple (dRow w ns)).canLay0 = true ∧ (PyData.tuple (dRow w ns)).showable = true ∧ (PyData.tuple (dRow w ns)).shown.length ≤ sizeLine ∧ (PyData.tuple (dRow w ns)).depth ≤ 64 ∧ ∀ x, PyData.tuple (dRow w ns) ≠ .str x := by
    refine ⟨?_, f.1, f.2, ?_, fun x e => by cases e⟩
    · have := ok_w hw
      simp [dRow, PyData.canLay0, PyData.canLayAll0, this, lay]
    · simp [dRow, PyData.depth, PyData.depthAll]
      omega
  unfold gStr
  dsimp only
  rw [asD_d]
  dsimp only
  rw [if_pos c]
theorem str_int {i : Int} (h : 0 ≤ i ∧ i ≤ 1000) (S : Sto) : gStr [.d (.int i)] S = .ok (.d (.str (PyData.int i).shown)) S := by
  have t := (txt_int (i := i) (by omega)).fits (by decide)
  have c : (PyData.int i).canLay0 = true ∧ (PyData.int i).showable = true ∧ (PyData.int i).shown.length ≤ sizeLine ∧ (PyData.int i).depth ≤ 64 ∧ ∀ x, PyData.int i ≠ .str x := ⟨by simp [PyData.canLay0], t.1, t.2, by simp [PyData.depth], fun x e => by cases e⟩
  unfold gStr
  dsimp only
  rw [asD_d]
  dsimp only
  rw [if_pos c]
theorem cut_mem {ds : List PyData} {lo hi : Option Int} {d : PyData} (h : d ∈ MV.cutD ds lo hi) : d ∈ ds := ((List.take_sublist _ _).trans (List.drop_sublist _ _)).subset h
theorem cut_len {ds : List PyData} {lo hi : Option Int} : (MV.cutD ds lo hi).length ≤ ds.length := ((List.take_sublist _ _).trans (List.drop_sublist _ _)).length_le
theorem last_row {w : Str} {ns : List Int} (hn : ∀ n ∈ ns, 0 ≤ n ∧ n ≤ 99) (hl : ns.length = 1 ∨ ns.length = 2) : ∃ z : Int, 0 ≤ z ∧ z ≤ 99 ∧ ∀ T, gIx (.d (.tuple (dRow w ns))) (.d (.int (-1))) T = .ok (.d (.int z)) T := by
  match ns, hl with
  | [a], _ => exact ⟨a, (hn a (by simp)).1, (hn a (by simp)).2, fun T => rfl⟩
  | [a, b], _ => exact ⟨b, (hn b (by simp)).1, (hn b (by simp)).2, fun T => rfl⟩
  | [], h => simp at h
  | _ :: _ :: _ :: _, h => simp at h
theorem head_row {w : Str} {ns : List Int} (hl : ns.length = 1 ∨ ns.length = 2) : ∃ r, MV.cutD (dRow w ns) none (some (-1)) = .str w :: r := by
  match ns, hl with
  | [a], _ => exact ⟨[], rfl⟩
  | [a, b], _ => exact ⟨[.int a], rfl⟩
  | [], h => simp at h
  | _ :: _ :: _ :: _, h => simp at h
theorem spoilt_wp {S : Sto} {n : Nat} {l : List PyData} {W : Web} {w : Str} {ns : List Int} (hn : S[n]? = some (.lst l)) (hl : HL l) (hW : sl 900 (pW W) = true) (hw : w ∈ [cutS, drawS, dropS]) (hns : ∀ n ∈ ns, 0 ≤ n ∧ n ≤ 99) (hnl : ns.length = 1 ∨ ns.length = 2) : wp (m_l_spoilt [.c n, .d (pW W), .d (.tuple (dRow w ns))] S) (OddG n S) := by
  have hz := hz
  have hg := row_gd (ns := ns) (ok_w hw)
  have len : (dRow w ns).length ≤ 3 := by simp [dRow]; omega
  have pos : 2 ≤ (dRow w ns).length := by simp [dRow]; omega
  have sr := str_row hw hns (by omega)
  obtain ⟨z, z0, z1, ez⟩ := last_row (w := w) hns hnl
  obtain ⟨r0, er⟩ := head_row (w := w) hnl
  have okw := ok_w hw
  have sz := str_int (i := z) (by omega)
  generalize (PyData.int z).shown = zs at sz
  generalize (PyData.tuple (dRow w ns)).shown = rs at sr
  generalize dRow w ns = ds at *
  refine wp_fn rfl ?_
  refine wp_seqN fun K kn => ?_
  simp [wp_bind]
  refine pick_wp hn hl (by decide) (by decide) fun l1 ch hl1 c0 c1 => ?_
  simp [wp_bind]
  refine pick_wp (st_upd hn) hl1 (by omega) (by omega) fun l2 at1 hl2 a0 a1 => ?_
  simp
  refine kn _ _ ?_
  clear kn K
  refine wp_seqN fun K kn => ?_
  simp [wp_bind]
  refine pick_wp (st_upd hn) hl2 (by decide) (by decide) fun l3 q hl3 q0 q1 => ?_
  simp
  refine kn _ _ ?_
  clear kn K
  have nu0 : -1 ≤ q - 1 := by omega
  have nu1 : q - 1 ≤ 100 := by omega
  generalize q - 1 = num at *
  have hn3 : (S.set n (.lst l3))[n]? = some (.lst l3) := st_upd hn
  have cm : ∀ lo hi, ∀ d ∈ MV.cutD ds lo hi, gd d := fun lo hi d hd => hg d (cut_mem hd)
  have cl : ∀ lo hi, (MV.cutD ds lo hi).length ≤ 3 := fun lo hi => Nat.le_trans cut_len len
  have app : ∀ {A B : List PyData}, (∀ d ∈ A, gd d) → (∀ d ∈ B, gd d) → ∀ d ∈ A ++ B, gd d := fun ha hb d hd => (List.mem_append.mp hd).elim (ha d) (hb d)
  have one : ∀ {x : PyData}, gd x → ∀ d ∈ [x], gd d := fun hx d hd => by rw [List.mem_singleton.mp hd]; exact hx
  have ad : ∀ (A B : List PyData) (T : Sto), A.length + B.length ≤ 20 → gAdd (.d (.tuple A)) (.d (.tuple B)) T = .ok (.d (.tuple (A ++ B))) T := fun A B T h => o_addT (by omega)
  by_cases e0 : ch = 0
  · refine step_yes (by simp [e0]) ?_
    simp
    have c1 := cl none (some at1)
    have c2 := cl (some (at1 + 1)) none
    have m1 := cm none (some at1)
    have m2 := cm (some (at1 + 1)) none
    generalize MV.cutD ds none (some at1) = A at *
    generalize MV.cutD ds (some (at1 + 1)) none = B at *
    have mu : ∀ T : Sto, ∃ k : Int, gMul (.d (.int num)) (.d (.int (if 0 < at1 then 1 else 0))) T = .ok (.d (.int k)) T := fun T => ⟨_, o_mulL (by omega) (by omega)⟩
    obtain ⟨k, ek⟩ := mu (S.set n (.lst l3))
    simp [ek]
    rw [ad A [PyData.int k] _ (by simp; omega)]
    simp
    rw [ad (A ++ [PyData.int k]) B _ (by simp; omega)]
    simp
    refine odd_out ?_ hl3 rfl
    have := Gd_tup (ds := A ++ [.int k] ++ B) (by simp; omega) (app (app m1 (one (gd_int k))) m2)
    simpa using this
  refine step_no (by simp [e0]) ?_
  by_cases e1 : ch = 1
  · refine step_yes (by simp [e1]) ?_
    unfold evRev
    simp
    rw [ad _ _ _ (by have := cl none (some 1); have := cl (some 1) none; simp; omega)]
    simp
    refine odd_out (Gd_tup (by have := cl none (some 1); have := cl (some 1) none; simp; omega) (app (cm _ _) fun d hd => cm (some 1) none d (by simpa using hd))) hl3 rfl
  refine step_no (by simp [e1]) ?_
  by_cases e2 : ch = 2
  · refine step_yes (by simp [e2]) ?_
    have c2 := cl (some 1) none
    have m2 := cm (some 1) none
    simp [wp_bind]
    refine pick_wp hn3 hl3 (by decide) (by decide) fun l4 r hl4 r0 r1 => ?_
    obtain ⟨y, hy, ey⟩ := at_exD (ds := [.str (Str.ofString "cut"), .str (Str.ofString "draw"), .str (Str.ofString "drop"), .str (Str.ofString "Cut"), .str (Str.ofString "cuts"), .str (Str.ofString ""), .str (Str.ofString "done"), .str (Str.ofString "tie")]) r0 (by simpa using r1)
    have gy : gd y := by
      simp only [List.mem_cons, List.not_mem_nil, or_false] at hy
      rcases hy with rfl | rfl | rfl | rfl | rfl | rfl | rfl | rfl <;> exact gd_str (by decide +kernel)
    simp [ey]
    generalize MV.cutD ds (some 1) none = B at *
    rw [ad [y] B _ (by simp; omega)]
    simp
    exact odd_out (Gd_tup (by simp; omega) (app (one gy) m2)) hl4 rfl
  refine step_no (by simp [e2]) ?_
  by_cases e3 : ch = 3
  · refine step_yes (by simp [e3]) ?_
    have c1 := cl none (some at1)
    have c2 := cl (some (at1 + 1)) none
    simp
    rw [ad _ _ _ (by omega)]
    simp
    exact odd_out (Gd_tup (by simp; omega) (app (cm _ _) (cm _ _))) hl3 rfl
  refine step_no (by simp [e3]) ?_
  by_cases e4 : ch = 4
  · refine step_yes (by simp [e4]) ?_
    simp
    rw [ad _ _ _ (by simp; omega)]
    simp
    exact odd_out (Gd_tup (by simp; omega) (app hg (one (gd_int num)))) hl3 rfl
  refine step_no (by simp [e4]) ?_
  by_cases e5 : ch = 5
  · refine step_yes (by simp [e5]) ?_
    have c1 := cl none (some 1)
    have c2 := cl (some 1) none
    have m1 := cm none (some 1)
    have m2 := cm (some 1) none
    have gl : ∀ T : Sto, gList [.d (.tuple ds)] T = .ok (.f (.lst ds)) T := fun _ => rfl
    simp [gl, sr]
    generalize MV.cutD ds none (some 1) = A at *
    generalize MV.cutD ds (some 1) none = B at *
    rw [ad A [PyData.tuple B] _ (by simp; omega)]
    simp [wp_bind]
    refine pick_wp hn3 hl3 (by decide) (by decide) fun l4 r hl4 r0 r1 => ?_
    obtain ⟨y, hy, ey⟩ := at_exD (ds := [.list ds, .tuple [.tuple ds], .tuple B, .str rs, .tuple (A ++ [.tuple B])]) r0 (by simpa using r1)
    have gy : Gd y := by
      simp only [List.mem_cons, List.not_mem_nil, or_false] at hy
      rcases hy with rfl | rfl | rfl | rfl | rfl
      · exact Gd_not fun _ h => by cases h
      · exact Gd_tup (by simp) (one (gd_tup (by omega) hg))
      · exact Gd_tup (by omega) m2
      · exact Gd_not fun _ h => by cases h
      · exact Gd_tup (by simp; omega) (app m1 (one (gd_tup (by omega) m2)))
    simp [ey]
    exact odd_out gy hl4 rfl
  refine step_no (by simp [e5]) ?_
  by_cases e6 : ch = 6
  · refine step_in (by simp [e6]) ?_
    refine wp_seqN fun K kn => ?_
    simp [ez, sz]
    refine kn _ _ ?_
    clear kn K
    have c1 := cl none (some (-1))
    have m1 := cm none (some (-1))
    simp [wp_bind]
    refine pick_wp hn3 hl3 (by decide) (by decide) fun l4 r hl4 r0 r1 => ?_
    obtain ⟨y, hy, ey⟩ := at_exD (ds := [.bool true, .bool false, .none, .str (Str.ofString "0"), .list [.int 0], .tuple [.int 0], .str zs, .int (-z - 1)]) r0 (by simpa using r1)
    have gy : sl 900 y = true := by
      simp only [List.mem_cons, List.not_mem_nil, or_false] at hy
      rcases hy with rfl | rfl | rfl | rfl | rfl | rfl | rfl | rfl <;> rfl
    simp [ey]
    generalize MV.cutD ds none (some (-1)) = A at *
    rw [ad A [y] _ (by simp; omega)]
    simp
    refine odd_out ⟨sl_mk (by simp; omega) fun d hd => ?_, fun v r e => ?_⟩ hl4 rfl
    · rcases List.mem_append.mp hd with hd | hd
      · exact (m1 d hd).1
      · rw [List.mem_singleton.mp hd]
        exact gy
    · rw [er] at e
      cases e
      exact okw
  refine step_no (by simp [e6]) ?_
  by_cases e7 : ch = 7
  · refine step_yes (by simp [e7]) ?_
    simp [wp_bind]
    refine pick_wp hn3 hl3 (by decide) (by decide) fun l4 r hl4 r0 r1 => ?_
    obtain ⟨y, hy, ey⟩ := at_exD (ds := [.str (Str.ofString "cut"), .str (Str.ofString "draw")]) r0 (by simpa using r1)
    have gy : gd y := by
      simp only [List.mem_cons, List.not_mem_nil, or_false] at hy
      rcases hy with rfl | rfl <;> exact gd_str (by decide +kernel)
    simp [ey, wp_bind]
    refine pick_wp (st_upd hn) hl4 (by decide) (by decide) fun l5 r5 hl5 _ _ => ?_
    simp [wp_bind]
    refine pick_wp (st_upd hn) hl5 (by decide) (by decide) fun l6 r6 hl6 _ _ => ?_
    simp
    refine odd_out (Gd_tup (by simp) ?_) hl6 rfl
    exact app (one gy) (app (one (gd_int r5)) (one (gd_int r6)))
  refine step_no (by simp [e7]) ?_
  refine wp_seqN fun K kn => ?_
  simp
  refine kn _ _ ?_
  clear kn K
  simp [wp_bind]
  refine pick_wp hn3 hl3 (by decide) (by decide) fun l4 r hl4 r0 r1 => ?_
  obtain ⟨y, hy, ey⟩ := at_exD (ds := [.none, .bool true, .int 0, .str (Str.ofString ""), .str (Str.ofString "cut"), .tuple [], .list [], .dict [], .tuple [.str (Str.ofString "cut")], .tuple [.str (Str.ofString "drop")], .tuple [.int 0, .int 1], .tuple [.str (Str.ofString "drop"), .tuple []], .tuple [.tuple [.str (Str.ofString "cut"), .int 0, .int 1]], pW W]) r0 (by simpa using r1)
  have gy : Gd y := by
    have k1 : PyData.strOk (Str.ofString "cut") = true := by decide +kernel
    have k2 : PyData.strOk (Str.ofString "drop") = true := by decide +kernel
    simp only [List.mem_cons, List.not_mem_nil, or_false] at hy
    rcases hy with rfl | rfl | rfl | rfl | rfl | rfl | rfl | rfl | rfl | rfl | rfl | rfl | rfl | rfl
    all_goals refine ⟨?_, fun w r e => ?_⟩
    all_goals first
      | rfl
      | exact hW
      | (cases e <;> assumption)
  simp [ey]
  exact odd_out gy hl4 rfl
end Z
set_option Elab.async false
set_option linter.all false
set_option maxRecDepth 100000
set_option maxHeartbeats 1000000
namespace Z
open PySem PySem.Spec PyProof.Rows L2 MV
def dDeed (w : Str) (ns : List Int) : PyData := .tuple (dRow w ns)
def everyD (W : Web) : List PyData := (W.2.map fun t => dDeed cutS [t.1, t.2]) ++ (W.2.map fun t => dDeed drawS [t.1, t.2]) ++ W.1.map fun p => dDeed dropS [p]
theorem every_len (W : Web) : (everyD W).length = 2 * W.2.length + W.1.length := by simp [everyD]; omega
theorem l_all_eq {W : Web} (h1 : W.1.length ≤ 24) (h2 : W.2.length ≤ 60) (S : Sto) : m_l_all [.d (pW W)] S = .ok (.f (.lst (everyD W))) S := by
  have hz := hz
  suffices h : wp (m_l_all [.d (pW W)] S) fun v S' => v = .f (.lst (everyD W)) ∧ S' = S by
    obtain ⟨v, S', e, rfl, rfl⟩ := h.ex
    exact e
  have ad : ∀ (w : Str) (t : Int × Int) (T : Sto), gAdd (.d (.tuple [.str w])) (.d (pP t)) T = .ok (.d (dDeed w [t.1, t.2])) T := fun w t T => o_addT (by simp; omega)
  refine wp_fn rfl ?_
  refine wp_seqN fun K kn => ?_
  simp
  rw [comp_map W.2 pP (fun t => dDeed cutS [t.1, t.2]) (s := ⟨dP W.2, []⟩) (by simp) (by simp) gok_nil (by omega) (fun t ht => ⟨_, by simp [wipeE]; rfl, by simp, _, by simp [ad]; rfl, rfl⟩)]
  simp
  refine kn _ _ ?_
  clear kn K
  simp
  rw [comp_map W.2 pP (fun t => dDeed drawS [t.1, t.2]) (s := ⟨dP W.2, []⟩) (by simp) (by simp) gok_nil (by omega) (fun t ht => ⟨_, by simp [wipeE]; rfl, by simp, _, by simp [ad]; rfl, rfl⟩)]
  simp
  rw [o_addL rfl rfl (by simp; omega)]
  simp
  rw [comp_map W.1 PyData.int (fun p => dDeed dropS [p]) (s := ⟨dI W.1, []⟩) (by simp) (by simp) gok_nil (by omega) (fun t ht => ⟨_, by simp [wipeE]; rfl, by simp, _, by simp; rfl, rfl⟩)]
  simp
  rw [o_addL rfl rfl (by simp; omega)]
  simp [everyD]
theorem every_mem {W : Web} (hW : IsWeb W) {x : PyData} (h : x ∈ everyD W) : ∃ w ns, x = dDeed w ns ∧ w ∈ [cutS, drawS, dropS] ∧ (∀ n ∈ ns, 0 ≤ n ∧ n ≤ 99) ∧ (ns.length = 1 ∨ ns.length = 2) := by
  have lo := hW.lo
  have lt := hW.lt
  have two : ∀ t ∈ W.2, ∀ n ∈ [t.1, t.2], 0 ≤ n ∧ n ≤ 99 := fun t ht n hn => by
    simp only [List.mem_cons, List.not_mem_nil, or_false] at hn
    rcases hn with rfl | rfl
    · exact lo _ (lt t ht).2.1
    · exact lo _ (lt t ht).2.2
  unfold everyD at h
  rcases List.mem_append.mp h with h | h
  · rcases List.mem_append.mp h with h | h
    · obtain ⟨t, ht, rfl⟩ := List.mem_map.mp h
      exact ⟨cutS, _, rfl, by simp, two t ht, .inr rfl⟩
    · obtain ⟨t, ht, rfl⟩ := List.mem_map.mp h
      exact ⟨drawS, _, rfl, by simp, two t ht, .inr rfl⟩
  · obtain ⟨p, hp, rfl⟩ := List.mem_map.mp h
    exact ⟨dropS, _, rfl, by simp, fun n hn => by rw [List.mem_singleton.mp hn]; exact lo p hp, .inl rfl⟩
theorem dep_deed (w : Str) (ns : List Int) : (dDeed w ns).depth ≤ 2 := by
  have dep : PyData.depthAll (dI ns) ≤ 1 := dep_map (fun i => by simp [PyData.depth]) ns
  simp [dDeed, dRow, PyData.depth, PyData.depthAll]
  omega
theorem lay_deed {w : Str} (hw : w ∈ [cutS, drawS, dropS]) (ns : List Int) : (dDeed w ns).canLay0 = true := by
  have lay : PyData.canLayAll0 (dI ns) = true := lay_map (fun i => by simp [PyData.canLay0]) ns
  have := ok_w hw
  simp [dDeed, dRow, PyData.canLay0, PyData.canLayAll0, this, lay]
theorem lay_of : ∀ {ds : List PyData}, (∀ d ∈ ds, d.canLay0 = true) → PyData.canLayAll0 ds = true
  | [], _ => rfl
  | d :: ds, h => by
    rw [PyData.canLayAll0, h d (by simp), lay_of fun e he => h e (List.mem_cons_of_mem _ he)]
    rfl
theorem dep_of {k : Nat} : ∀ {ds : List PyData}, (∀ d ∈ ds, d.depth ≤ k) → PyData.depthAll ds ≤ k
  | [], _ => by simp [PyData.depthAll]
  | d :: ds, h => by
    have h1 := h d (by simp)
    have h2 := dep_of fun e he => h e (List.mem_cons_of_mem d he)
    rw [PyData.depthAll]
    omega
theorem shaped_every {W : Web} (hW : IsWeb W) : SeqAt.shaped (.list (everyD W)) = true := by
  have l : PyData.canLayAll0 (everyD W) = true := lay_of fun d hd => by
    obtain ⟨v, a, rfl, hv, -⟩ := every_mem hW hd
    exact lay_deed hv a
  have d : PyData.depthAll (everyD W) ≤ 2 := dep_of fun d hd => by
    obtain ⟨v, a, rfl, hv, -⟩ := every_mem hW hd
    exact dep_deed v a
  simp [SeqAt.shaped, PyData.canLay0, PyData.depth, l]
  omega
end Z
set_option Elab.async false
set_option linter.all false
set_option maxRecDepth 100000
set_option maxHeartbeats 1000000
namespace Z
open PySem PySem.Spec PyProof.Rows L2 MV
def decD : PyData → Dd
  | .tuple [.str w, .int a, .int b] => if w = cutS then .cut (a, b) else .draw (a, b)
  | .tuple [.str _, .int p] => .drop p
  | _ => .drop 0
theorem dec_enc (d : Dd) : decD (encDd d) = d := by
  cases d with
  | cut t => rfl
  | draw t =>
    show (if drawS = cutS then Dd.cut (t.1, t.2) else Dd.draw (t.1, t.2)) = _
    rw [if_neg (show ¬ drawS = cutS by decide +kernel)]
  | drop p => rfl
theorem tieI_2 {W : Web} {a b : Int} : tieI W [a, b] = decide ((a, b) ∈ W.2) := encP.any (a, b) W.2
theorem deedB_enc (W : Web) (d : Dd) : deedB W (encDd d) = true ↔ DdOk W d := by
  cases d with
  | cut t =>
    rw [show encDd (.cut t) = .tuple (.str cutS :: dI [t.1, t.2]) from rfl, deedB_I]
    unfold deedI
    rw [if_pos (by simp), tieI_2, decide_eq_true_iff]
    rfl
  | draw t =>
    rw [show encDd (.draw t) = .tuple (.str drawS :: dI [t.1, t.2]) from rfl, deedB_I]
    unfold deedI
    rw [if_pos (by simp), tieI_2, decide_eq_true_iff]
    rfl
  | drop p =>
    rw [show encDd (.drop p) = .tuple (.str dropS :: dI [p]) from rfl, deedB_I]
    unfold deedI
    rw [if_neg (by decide +kernel)]
    simp [onlyB, DdOk]
theorem deedB_dec {W : Web} {x : PyData} (h : deedB W x = true) : x = encDd (decD x) ∧ DdOk W (decD x) := by
  suffices ∃ d, x = encDd d by
    obtain ⟨d, rfl⟩ := this
    rw [dec_enc]
    exact ⟨rfl, (deedB_enc W d).mp h⟩
  cases x with
  | tuple ds =>
    match ds with
    | [] => cases h
    | [d] => cases d <;> cases h
    | .str w :: d :: r =>
      have h' : ((d :: r).all isI && deedI W w ((intsOf (d :: r)).getD [])) = true := h
      rw [Bool.and_eq_true] at h'
      obtain ⟨ns, e⟩ := all_isI h'.1
      rw [e, ints_dI] at h'
      have h2 : deedI W w ns = true := h'.2
      unfold deedI at h2
      split at h2
      · rename_i c
        have l2 : ns.length = 2 := Classical.byContradiction fun q => by rw [tieI_len q] at h2; cases h2
        match ns, l2 with
        | [a, b], _ =>
          rw [e]
          simp at c
          rcases c with rfl | rfl
          · exact ⟨.cut (a, b), rfl⟩
          · exact ⟨.draw (a, b), rfl⟩
      · rw [Bool.and_eq_true, decide_eq_true_iff] at h2
        obtain ⟨rfl, h3⟩ := h2
        match ns, h3 with
        | [p], _ =>
          rw [e]
          exact ⟨.drop p, rfl⟩
        | [], h3 => cases h3
        | _ :: _ :: _, h3 => cases h3
    | .none :: _ :: _ => cases h
    | .bool _ :: _ :: _ => cases h
    | .int _ :: _ :: _ => cases h
    | .list _ :: _ :: _ => cases h
    | .tuple _ :: _ :: _ => cases h
    | .dict _ :: _ :: _ => cases h
  | _ => cases h
/-- the web behind a row, or the number of the first that is none -/
def walkR : Web → List PyData → Nat → Web ⊕ Nat
  | W, [], _ => .inl W
  | W, x :: xs, n => if deedB W x = true then walkR (behW W (decD x)) xs (n + 1) else .inr n
structure Wok (W : Web) : Prop where
  web : IsWeb W
  h1 : W.1.length ≤ 24
  h2 : W.2.length ≤ 60
theorem Wok.beh {W : Web} (h : Wok W) {d : Dd} (hd : DdOk W d) : Wok (behW W d) := ⟨beh_web h.web hd, Nat.le_trans (beh_len d).1 h.h1, Nat.le_trans (beh_len d).2 h.h2⟩
theorem walk_web : ∀ {ds : List PyData} {W W' : Web} {n : Nat}, Wok W → walkR W ds n = .inl W' → Wok W'
  | [], W, W', n, h, e => by cases e; exact h
  | x :: xs, W, W', n, h, e => by
    unfold walkR at e
    split at e
    · rename_i c
      exact walk_web (h.beh (deedB_dec c).2) e
    · cases e
theorem walk_app : ∀ {ds es : List PyData} {W W' : Web} {n : Nat}, walkR W ds n = .inl W' → walkR W (ds ++ es) n = walkR W' es (n + ds.length)
  | [], es, W, W', n, e => by cases e; rfl
  | x :: xs, es, W, W', n, e => by
    unfold walkR at e
    split at e
    · rename_i c
      rw [List.cons_append]
      show (if deedB W x = true then walkR (behW W (decD x)) (xs ++ es) (n + 1) else .inr n) = _
      rw [if_pos c, walk_app e, List.length_cons, show n + 1 + xs.length = n + (xs.length + 1) by omega]
    · cases e
def resP (S : Sto) : Web ⊕ Nat → Res Val
  | .inl W => .ok (.d (pW W)) S
  | .inr n => .exc (noD n) S
noncomputable def bP : Ss := (sSeq (sIf (bNx (bNot (tst (evCall m_is_deed (aCons (evV 0) (aCons (evV 3) (aNil))))))) (xRaise
      (aCons (evV 2) (aNil))) (sNil)) (sNx (sSet 0 (evCall m_behind (aCons (evV 0) (aCons (evV 3) (aNil)))))))
theorem bP_eq {W : Web} {x : PyData} {n : Nat} {v1 : Option Val} {S : Sto} (h : Wok W) (g : Gd x) : bP [some (.d (pW W)), v1, some (.d (.int n)), some (.d x)] S =
    if deedB W x = true then .ok (.nx [some (.d (pW (behW W (decD x)))), v1, some (.d (.int n)), some (.d x)]) S else .exc (noD n) S := by
  have e1 := is_deed_eq (W := W) g.1 g.2 S
  unfold bP
  by_cases c : deedB W x = true
  · rw [if_pos c]
    rw [c] at e1
    obtain ⟨e2, e3⟩ := deedB_dec c
    have e4 := behind_eq (S := S) h.web h.h1 h.h2 e3
    rw [← e2] at e4
    simp [bNx, sNx, e1, e4]
  · rw [if_neg c]
    rw [show deedB W x = false by simpa using c] at e1
    simp [bNx, xRaise, rzOf, e1]
theorem goP {bd : Bnd} (hbd : bd = bTup [bName 2, bName 3]) {it : List PyData} {v1 : Option Val} {S : Sto} : ∀ (ds : List PyData) (W : Web) (n : Nat) (o2 o3 : Option Val), Wok W → (∀ x ∈ ds, Gd x) →
    forGo ⟨it, []⟩ bd bP ((ds.zipIdx n).map fun p => .tuple [.int (p.2 : Nat), p.1]) [some (.d (pW W)), v1, o2, o3] S = match walkR W ds n with
      | .inl W' => .ok (.nx [some (.d (pW W')), v1, (match ds.getLast? with | some _ => some (.d (.int ((n + ds.length - 1 : Nat)))) | none => o2), (match ds.getLast? with | some x => some (.d x) | none => o3)]) S
      | .inr k => .exc (noD k) S
  | [], W, n, o2, o3, _, _ => by
    show chk S _ _ = _
    rw [chk_pos gok_nil]
    rfl
  | x :: xs, W, n, o2, o3, h, g => by
    subst hbd
    rw [List.zipIdx_cons, List.map_cons]
    show chk S _ ((bP [some (.d (pW W)), v1, some (.d (.int n)), some (.d x)] S).bind _) = _
    rw [chk_pos gok_nil, bP_eq h (g x (by simp))]
    unfold walkR
    by_cases c : deedB W x = true
    · rw [if_pos c, if_pos c]
      obtain ⟨e2, e3⟩ := deedB_dec c
      have ih := goP (it := it) (v1 := v1) (S := S) rfl xs (behW W (decD x)) (n + 1) (some (.d (.int n))) (some (.d x)) (h.beh e3) fun y hy => g y (List.mem_cons_of_mem _ hy)
      rw [bind_ok]
      dsimp only
      rw [ih]
      cases walkR (behW W (decD x)) xs (n + 1) with
      | inr k => rfl
      | inl W' =>
        cases xs with
        | nil => simp
        | cons y ys =>
          simp only [List.getLast?_cons_cons]
          have : ((y :: ys).getLast?) = some ((y :: ys).getLast (by simp)) := List.getLast?_eq_getLast (by simp)
          rw [this]
          simp
          omega
    · rw [if_neg c, if_neg c]
      rfl
theorem played_eq {W : Web} (h : Wok W) {ds : List PyData} (g : ∀ x ∈ ds, Gd x) (S : Sto) : m_played [.d (pW W), .d (.tuple ds)] S = resP S (walkR W ds 0) := by
  have e : y_played [some (.d (pW W)), some (.d (.tuple ds)), none, none] S = (match walkR W ds 0 with
    | .inl W' => .ok (.rt (.d (pW W'))) S
    | .inr k => .exc (noD k) S) := by
    have hs : iNx (iEnm (evV 1)) [some (.d (pW W)), some (.d (.tuple ds)), none, none] S = .ok ⟨enumD ds, []⟩ S := by simp [iNx, iEnm]
    have z := goP (it := enumD ds) (v1 := some (.d (.tuple ds))) (S := S) rfl ds W 0 none none h g
    show ((sFo (iNx (iEnm (evV 1))) (bTup [bName 2, bName 3]) bP _ S).bind _) = _
    rw [e_sFo, hs, bind_ok]
    show (forGo _ _ _ (ds.zipIdx.map fun p => .tuple [.int (p.2 : Nat), p.1]) _ _).bind _ = _
    rw [z]
    cases walkR W ds 0 with
    | inl W' => simp [sNx]
    | inr k => rfl
  unfold m_played onlyD mkFn
  simp only [List.length_cons, List.length_nil, if_true, Nat.zero_add, Nat.reduceAdd, List.map_cons, List.map_nil, Nat.reduceSub, List.replicate, List.cons_append, List.nil_append]
  rw [e]
  cases walkR W ds 0 with
  | inl W' => simp [resP]
  | inr k => rfl
/-! alike -/
mutual
def tri : PyData → Bool
  | .int _ => true
  | .tuple ds => decide (ds.length ≤ 1000) && tris ds
  | _ => false
def tris : List PyData → Bool
  | [] => true
  | d :: ds => tri d && tris ds
end
theorem tris_mem : ∀ {ds : List PyData}, tris ds = true → ∀ d ∈ ds, tri d = true
  | [], _, d, h => by cases h
  | e :: ds, h, d, m => by
    rw [tris, Bool.and_eq_true] at h
    rcases List.mem_cons.mp m with rfl | m
    · exact h.1
    · exact tris_mem h.2 d m
theorem tris_of : ∀ {ds : List PyData}, (∀ d ∈ ds, tri d = true) → tris ds = true
  | [], _ => rfl
  | d :: ds, h => by
    rw [tris, h d (by simp), tris_of fun e he => h e (List.mem_cons_of_mem _ he)]
    rfl
theorem tri_tup {ds : List PyData} (h : ds.length ≤ 1000) (m : ∀ d ∈ ds, tri d = true) : tri (.tuple ds) = true := by
  rw [tri, Bool.and_eq_true, decide_eq_true_iff]
  exact ⟨h, tris_of m⟩
theorem depth_mem : ∀ {ds : List PyData} {d : PyData}, d ∈ ds → d.depth ≤ PyData.depthAll ds
  | [], d, h => by cases h
  | e :: ds, d, m => by
    rw [PyData.depthAll]
    rcases List.mem_cons.mp m with rfl | m
    · omega
    · have := depth_mem m
      omega
theorem zip_same (ds : List PyData) : zipD ds ds = ds.map fun d => .tuple [d, d] := by
  unfold zipD
  induction ds with
  | nil => rfl
  | cons d ds ih => simp [ih]
theorem same_eq (S : Sto) : ∀ (k : Nat) (x : PyData), tri x = true → x.depth < k → m_l_same k [.d x, .d x] S = .ok (.d (.bool true)) S
  | 0, x, _, h => absurd h (Nat.not_lt_zero _)
  | k + 1, .int i, _, h => by
    refine fn_eq rfl (S1 := S) ?_ (fun r h => by rw [← h]; simp)
    simp [y_l_same, kind, isOf]
  | k + 1, .tuple ds, t, h => by
    have hz : (1000 : Nat) ≤ sizeLine := by decide
    rw [tri, Bool.and_eq_true, decide_eq_true_iff] at t
    rw [PyData.depth] at h
    refine fn_eq rfl (S1 := S) ?_ (fun r h => by rw [← h]; simp)
    simp [y_l_same, kind, isOf]
    rw [comp_map ds (fun d => .tuple [d, d]) (fun _ => .bool true) (s := ⟨zipD ds ds, []⟩) (by simp [gZip]) (zip_same ds) gok_nil (by omega) (fun d hd => ⟨_, by simp [wipeE]; rfl, by simp, _, by
      have := depth_mem hd
      simp
      exact same_eq S k d (tris_mem t.2 d hd) (by omega), rfl⟩)]
    simp
    rw [g_all (bs := List.replicate ds.length true) (by simp [List.map_const'])]
    simp
  | _, .str _, t, _ => by simp [tri] at t
  | _, .none, t, _ => by simp [tri] at t
  | _, .bool _, t, _ => by simp [tri] at t
  | _, .list _, t, _ => by simp [tri] at t
  | _, .dict _, t, _ => by simp [tri] at t
theorem tri_W {W : Web} (h : Wok W) : tri (pW W) = true := tri_tup (by simp) fun d hd => by
  have a1 := h.h1
  have a2 := h.h2
  simp at hd
  rcases hd with rfl | rfl
  · exact tri_tup (by simp; omega) fun d hd => by
      obtain ⟨i, _, rfl⟩ := List.mem_map.mp hd
      rfl
  · exact tri_tup (by simp; omega) fun d hd => by
      obtain ⟨i, _, rfl⟩ := List.mem_map.mp hd
      exact tri_tup (by simp) fun d hd => by
        simp at hd
        rcases hd with rfl | rfl <;> rfl
theorem same_W {W : Web} (h : Wok W) (S : Sto) : m_l_same 40 [.d (pW W), .d (pW W)] S = .ok (.d (.bool true)) S := same_eq S 40 _ (tri_W h) (Nat.lt_of_le_of_lt (encW.dep W) (by decide))
theorem same_I (n : Int) (S : Sto) : m_l_same 40 [.d (.int n), .d (.int n)] S = .ok (.d (.bool true)) S := same_eq S 40 _ rfl (by simp [PyData.depth])
theorem done_eq {W : Web} (h : Wok W) {x : PyData} (g : Gd x) (S : Sto) : m_done [.d (pW W), .d x] S = if deedB W x = true then .ok (.d (pW (behW W (decD x)))) S else .exc (noD 0) S := by
  have e := played_eq h (ds := [x]) (fun y hy => by rw [List.mem_singleton.mp hy]; exact g) S
  unfold m_done y_done onlyD mkFn
  by_cases c : deedB W x = true
  · have w : walkR W [x] 0 = .inl (behW W (decD x)) := by
      unfold walkR
      rw [if_pos c]
      rfl
    rw [w] at e
    rw [if_pos c]
    simp [aNx, e, resP]
  · have w : walkR W [x] 0 = .inr 0 := by
      unfold walkR
      rw [if_neg c]
    rw [w] at e
    rw [if_neg c]
    simp [aNx, e, resP]
/-- right at each thing -/
theorem right_eq {W : Web} (h : Wok W) {x : PyData} (g : Gd x) (S : Sto) : m_l_right [.d (pW W), .d x] S = .ok (.d (.bool true)) S := by
  refine fn_eq rfl (S1 := S) ?_ (fun r h => by rw [← h]; simp)
  have e1 := done_eq h g S
  have e2 := l_is_deed_eq (W := W) g.1 g.2 S
  unfold y_l_right
  by_cases c : deedB W x = true
  · rw [if_pos c] at e1
    rw [c] at e2
    obtain ⟨e3, e4⟩ := deedB_dec c
    have e5 := l_behind_eq (S := S) h.web h.h1 h.h2 e4
    rw [← e3] at e5
    have nn : isNone (.d (pW (behW W (decD x)))) = false := rfl
    simp [e1, e2, e5, sTryN, aNx, isNone, same_W (h.beh e4)]
  · rw [if_neg c] at e1
    rw [show deedB W x = false by simpa using c] at e2
    have n1 : MV.numOf (noD 0) = some (0 : Int) := by
      unfold MV.numOf noD
      exact if_pos ⟨rfl, rfl⟩
    simp [e1, e2, sTryN, aNx, n1, isNone, same_I]
theorem str_tup {ds : List PyData} (S : Sto) (c : (PyData.tuple ds).canLay0 = true ∧ (PyData.tuple ds).showable = true ∧ (PyData.tuple ds).shown.length ≤ sizeLine ∧ (PyData.tuple ds).depth ≤ 64 ∧ ∀ x, PyData.tuple ds ≠ .str x) : gStr [.d (.tuple ds)] S = .ok (.d (.str (PyData.tuple ds).shown)) S := by
  unfold gStr
  dsimp only
  rw [asD_d]
  dsimp only
  rw [if_pos c]
theorem str_W {W : Web} (hW : Wok W) (S : Sto) : gStr [.d (pW W)] S = .ok (.d (.str (pW W).shown)) S := by
  have lo := hW.web.lo
  have lt := hW.web.lt
  have l1 := hW.h1
  have l2 := hW.h2
  have t1 : Txt (pT W.1) _ := txt_tup (enc := PyData.int) (n := 0) fun p hp => txt_int (by have := lo p hp; omega)
  have t2 : Txt (pTs W.2) _ := txt_tup (enc := pP) (n := 2) fun p hp => txt_P (by have := lo _ (lt p hp).2.1; omega) (by have := lo _ (lt p hp).2.2; omega)
  have t : Txt (pW W) _ := txt_tup (enc := id) (n := 4000) (xs := [pT W.1, pTs W.2]) fun x hx => by
    simp at hx
    rcases hx with rfl | rfl
    · exact ⟨t1.1, t1.2.1, Nat.le_trans t1.2.2 (by omega)⟩
    · exact ⟨t2.1, t2.2.1, Nat.le_trans t2.2.2 (by omega)⟩
  have f := t.fits (by show 4001 * 2 ≤ 2 ^ 20; decide)
  exact str_tup S ⟨encW.lay W, f.1, f.2, Nat.le_trans (encW.dep W) (by decide), fun x e => by cases e⟩
end Z
set_option Elab.async false
set_option linter.all false
set_option maxRecDepth 100000
set_option maxHeartbeats 1000000
namespace Z
open PySem PySem.Spec PyProof.Rows L2 MV
theorem law_true (ns : List Int) (hl : ns.length ≤ 63) : ∃ S, m_law [.z (dI ns)] [] = .ok (.d (.bool true)) S := by
  classical
  have hz := hz
  suffices h : wp (m_law [.z (dI ns)] []) fun v _ => v = .d (.bool true) by
    obtain ⟨v, S, e, rfl⟩ := h.ex
    exact ⟨S, e⟩
  refine wp_fn rfl ?_
  refine wp_seq fun K kn kr => ?_
  obtain ⟨m, hm, hr⟩ : ∃ m : Nat, m ≤ 5 ∧ (iBy gRange1 (aCons (ev2 gAdd (evK (.int 1)) (evCall gMin (aCons (evK (.int 4)) (aCons (evCall (g1 fLen) (aCons (evV 0) (aNil))) (aNil))))) (aNil))) [some (.z (dI ns)), none, none, none, none, none, none, none, none, none] [] = .ok ⟨iota 0 m, []⟩ [] := by
    refine ⟨(1 + (if (ns.length : Int) < 4 then (ns.length : Int) else 4)).toNat, by split <;> omega, ?_⟩
    simp
    rw [e_range1 (by split <;> omega) (by split <;> omega)]
  refine wp_forK (fun (pre : List Nat) ρ T => ∃ o1 o2 o3 o4 o5 o6 o7 o8 o9, ρ = [some (.z (dI ns)), o1, o2, o3, o4, o5, o6, o7, o8, o9]) (List.range m) (fun i => .int (0 + i)) hr rfl (fun _ _ _ _ => gok_nil) ⟨none, none, none, none, none, none, none, none, none, rfl⟩ ?_ ?_
  · rintro pre k post ρ T hk ⟨o1, o2, o3, o4, o5, o6, o7, o8, o9, rfl⟩
    obtain ⟨hk1, hk2⟩ := range_at hk
    refine ⟨_, rfl, fun K kn kr => ?_⟩
    refine wp_seqN fun K1 k1 => ?_
    simp [wp_bind]
    refine (left_wp ns k (by omega) (by omega) T).mono ?_
    rintro v T' ⟨rfl, l, rfl, hl⟩
    simp
    refine k1 _ _ ?_
    clear k1 K1
    generalize hT : T' ++ [Cell.lst l] = T
    have hn : T[T'.length]? = some (.lst l) := by rw [← hT]; simp
    generalize T'.length = n at hn
    clear hT
    refine wp_seqN fun K1 k1 => ?_
    simp [wp_bind]
    refine (web_wp hn hl (by decide) (by decide)).mono ?_
    rintro v U ⟨W, l2, rfl, hW, w2, w3, hl2, rfl⟩
    simp
    refine k1 _ _ ?_
    clear k1 K1
    have hn2 : (T.set n (.lst l2))[n]? = some (.lst l2) := st_upd hn
    generalize T.set n (.lst l2) = U at hn2
    have w2' : W.1.length ≤ 24 := by omega
    have hok : Wok W := ⟨hW, w2', w3⟩
    have slW : sl 900 (pW W) = true := by
      refine sl_mk (by simp) fun d hd => ?_
      simp only [List.mem_cons, List.not_mem_nil, or_false] at hd
      rcases hd with rfl | rfl
      · refine sl_mk (by simp; omega) fun d hd => ?_
        obtain ⟨a, _, rfl⟩ := List.mem_map.mp hd
        rfl
      · refine sl_mk (by simp; omega) fun d hd => ?_
        obtain ⟨a, _, rfl⟩ := List.mem_map.mp hd
        exact sl_mk (by simp) fun y hy => by
          simp at hy
          rcases hy with rfl | rfl <;> rfl
    have aeq := fun T => l_all_eq w2' w3 T
    have shE := shaped_every hW
    have lenE : (everyD W).length ≤ 150 := by rw [every_len]; omega
    have memE : ∀ x ∈ everyD W, ∃ w ns, x = dDeed w ns ∧ w ∈ [cutS, drawS, dropS] ∧ (∀ n ∈ ns, 0 ≤ n ∧ n ≤ 99) ∧ (ns.length = 1 ∨ ns.length = 2) := fun x hx => every_mem hW hx
    have gdE : ∀ x ∈ everyD W, Gd x := fun x hx => by
      obtain ⟨w, a, rfl, hw, -, ha⟩ := memE x hx
      exact Gd_tup (by simp [dRow]; omega) (row_gd (ok_w hw))
    generalize everyD W = E at *
    refine wp_seqN fun K1 k1 => ?_
    simp [aeq]
    refine k1 _ _ ?_
    clear k1 K1
    obtain ⟨v, U2, ec1, D1, l3, rfl, ⟨hD1l, hD1⟩, hl3, hn3⟩ := (show wp (evComp (iBy gRange1 (aCons (evK (.int 6)) (aNil))) (bName 6) (bYes) (evCall m_l_spoilt (aCons (evV 2) (aCons (evV 3) (aCons (evTup (aCons (evK (.str (Str.ofString "draw"))) (aCons (evK (.int 0)) (aCons (evK (.int 1)) (aNil))))) (aNil))))) [6] [some (.z (dI ns)), some (.d (.int (k : Int))), some (.c n), some (.d (pW W)), some (.d (.list E)), o5, o6, o7, o8, o9] U) (fun v U2 => ∃ (D : List PyData) (l3 : List PyData), v = .f (.lst D) ∧ (D.length ≤ 6 ∧ ∀ d ∈ D, Gd d) ∧ HL l3 ∧ U2[n]? = some (.lst l3)) from by
      refine wp_compK (fun (pre : List Nat) acc T => ∃ (l3 : List PyData), acc.length = pre.length ∧ (∀ d ∈ acc, Gd d) ∧ HL l3 ∧ T[n]? = some (.lst l3)) (List.range 6) (fun i => .int (0 + (i : Int))) (s := ⟨iota 0 6, []⟩) (S1 := U) (by simp) rfl (by simp; omega) (fun _ _ _ _ => gok_nil) ⟨l2, rfl, by simp, hl2, hn2⟩ ?_ ?_
      · rintro pre x post acc T e ⟨l3, hlen, hP, hl3, hn3⟩
        refine ⟨_, rfl, fun K kt kf => ?_⟩
        simp [wipeE]
        refine kt _ fun K2 k2 => ?_
        simp [wipeE, wp_bind]
        refine (spoilt_wp (w := drawS) (ns := [0, 1]) hn3 hl3 slW (by simp) (by simp) (.inr rfl)).mono ?_
        rintro v T' ⟨d, l4, rfl, hs, hl4, rfl⟩
        exact k2 _ _ _ rfl ⟨l4, by simp [hlen], fun Q hQ => by
          rcases List.mem_append.mp hQ with hQ | hQ
          · exact hP Q hQ
          · rw [List.mem_singleton.mp hQ]; exact hs, hl4, st_upd hn3⟩
      · rintro acc T ⟨l3, hlen, hP, hl3, hn3⟩
        exact ⟨acc, l3, rfl, ⟨by simp [hlen], hP⟩, hl3, hn3⟩).ex
    refine wp_seqN fun K1 k1 => ?_
    simp [ec1]
    refine k1 _ _ ?_
    clear k1 K1 ec1
    have hlt : n < U2.length := by
      rcases Nat.lt_or_ge n U2.length with h | h
      · exact h
      · rw [List.getElem?_eq_none h] at hn3; cases hn3
    obtain ⟨c, nc, hn4, hc4⟩ : ∃ c, n ≠ c ∧ (U2 ++ [Cell.lst D1])[n]? = some (.lst l3) ∧ (U2 ++ [Cell.lst D1])[c]? = some (.lst D1) ∧ c = U2.length := ⟨U2.length, by omega, by rw [List.getElem?_append_left hlt]; exact hn3, by simp, rfl⟩
    obtain ⟨hc4, rfl⟩ := hc4
    generalize U2 ++ [Cell.lst D1] = V at hn4 hc4 ⊢
    generalize U2.length = c at nc hc4 ⊢
    have neE : ∀ T : Sto, gNe (.d (.list E)) (.d (.list [])) T = .ok (.d (.bool (!E.isEmpty))) T := fun T => by
      rw [o_ne (x := .list E) (y := .list []) rfl rfl shE rfl]
      cases E <;> rfl
    obtain ⟨m2, hm2, hm0, hr2⟩ : ∃ m2 : Nat, m2 ≤ 20 ∧ (0 < m2 → 0 < E.length) ∧ (iBy gRange1 (aCons (ev2 gMul (evK (.int 20)) (evCall (g1 fInt) (aCons (ev2 gNe (evV 4) (evLst (aNil))) (aNil)))) (aNil))) [some (.z (dI ns)), some (.d (.int (k : Int))), some (.c n), some (.d (pW W)), some (.d (.list E)), some (.c c), o6, o7, o8, o9] V = .ok ⟨iota 0 m2, []⟩ V := by
      cases E with
      | nil => exact ⟨0, by omega, fun z => absurd z (by omega), by simp [neE]⟩
      | cons d E => exact ⟨20, by omega, by simp, by simp [neE]⟩
    refine wp_seqN fun K1 k1 => ?_
    refine wp_forK (fun (pre : List Nat) ρ T => ∃ o6 l D, ρ = [some (.z (dI ns)), some (.d (.int (k : Int))), some (.c n), some (.d (pW W)), some (.d (.list E)), some (.c c), o6, o7, o8, o9] ∧ HL l ∧ T[n]? = some (.lst l) ∧ T[c]? = some (.lst D) ∧ D.length ≤ 6 + pre.length ∧ ∀ d ∈ D, Gd d) (List.range m2) (fun i => .int (0 + (i : Int))) hr2 rfl (fun _ _ _ _ => gok_nil) ⟨_, l3, D1, rfl, hl3, hn4, hc4, by simpa using hD1l, hD1⟩ ?_ ?_
    · rintro pre i post ρ T hk ⟨o6, l, D, rfl, hl, hn, hc, hDl, hD⟩
      obtain ⟨hi1, hi2⟩ := range_at hk
      have hpl := congrArg List.length hk
      simp at hpl
      have hpos : 0 < E.length := hm0 (by omega)
      refine ⟨_, rfl, fun K kn kr => ?_⟩
      have lE : g1 fLen [.d (.list E)] T = .ok (.d (.int (E.length : Int))) T := by simp
      simp [wp_bind, ty_list hc]
      refine pick_wp hn hl (by omega) (by omega) fun l5 r hl5 r0 r1 => ?_
      obtain ⟨y, hy, ey⟩ := at_exD r0 r1
      obtain ⟨w, a, rfl, hw, ha, hal⟩ := memE y hy
      simp [ey, wp_bind]
      refine (spoilt_wp (st_upd hn) hl5 slW hw ha hal).mono ?_
      rintro v T' ⟨d, l6, rfl, hs, hl6, rfl⟩
      have hn6 : ((T.set n (.lst l5)).set n (.lst l6))[n]? = some (.lst l6) := st_upd (st_upd hn)
      have hc6 : ((T.set n (.lst l5)).set n (.lst l6))[c]? = some (.lst D) := by
        rw [List.getElem?_set_ne nc, List.getElem?_set_ne nc]
        exact hc
      generalize (T.set n (.lst l5)).set n (.lst l6) = T6 at hn6 hc6
      simp [ty_list hc6, app_c hc6 (y := d) (by omega)]
      refine kn _ _ ⟨_, l6, D ++ [d], rfl, hl6, ?_, st_upd hc6, by simp; omega, fun Q hQ => ?_⟩
      · rw [List.getElem?_set_ne (Ne.symm nc)]
        exact hn6
      · rcases List.mem_append.mp hQ with hQ | hQ
        · exact hD Q hQ
        · rw [List.mem_singleton.mp hQ]; exact hs
    rintro ρ T ⟨p6, l, D, rfl, hl, hn, hc, hDl, hD⟩
    refine k1 _ _ ?_
    clear k1 K1
    have hDl : D.length ≤ 26 := by simp at hDl; omega
    have eS := fun T => str_W hok T
    have neS : ∀ (x : Str) (S : Sto), gNe (.d (.str x)) (.d (.str x)) S = .ok (.d (.bool false)) S := fun x S => by simp [gNe]
    generalize (pW W).shown = sh at eS
    refine wp_seqN fun K1 k1 => ?_
    simp [eS]
    refine k1 _ _ ?_
    clear k1 K1
    refine wp_forK (fun (pre : List Nat) ρ T => ∃ o8 o9, ρ = [some (.z (dI ns)), some (.d (.int (k : Int))), some (.c n), some (.d (pW W)), some (.d (.list E)), some (.c c), p6, some (.d (.str sh)), o8, o9] ∧ T[c]? = some (.lst D)) (List.range 2) (fun i => .int (0 + (i : Int))) (s := ⟨iota 0 2, []⟩) (S1 := T) (by simp) rfl (fun _ _ _ _ => gok_nil) ⟨o8, o9, by simp, hc⟩ ?_ ?_
    · rintro pre3 i3 post3 ρ T e3 ⟨s8, s9, rfl, hc⟩
      refine ⟨_, rfl, fun K8 k8 kr8 => ?_⟩
      have asC : asL T (.c c) = some D := by simp [hc]
      have hsrc : iSeq (ev2 gAdd (evV 4) (evV 5)) [some (.z (dI ns)), some (.d (.int (k : Int))), some (.c n), some (.d (pW W)), some (.d (.list E)), some (.c c), p6, some (.d (.str sh)), some (.d (.int (0 + (i3 : Int)))), s9] T = .ok ⟨E ++ D, []⟩ T := by
        have ad : gAdd (.d (.list E)) (.c c) T = .ok (.f (.lst (E ++ D))) T := o_addL rfl asC (by omega)
        simp [ad]
      have hG : ∀ d ∈ E ++ D, Gd d := fun d hd => (List.mem_append.mp hd).elim (gdE d) (hD d)
      refine wp_forK (fun (pre : List PyData) ρ T => ∃ o9, ρ = [some (.z (dI ns)), some (.d (.int (k : Int))), some (.c n), some (.d (pW W)), some (.d (.list E)), some (.c c), p6, some (.d (.str sh)), some (.d (.int (0 + (i3 : Int)))), o9] ∧ T[c]? = some (.lst D)) (E ++ D) id (s := ⟨E ++ D, []⟩) (S1 := T) (by simpa using hsrc) (by simp) (fun _ _ _ _ => gok_nil) ⟨s9, by simp, hc⟩ ?_ ?_
      · rintro pre x post ρ T e ⟨p9, rfl, hc⟩
        have gx : Gd x := hG x (by rw [e]; simp)
        refine ⟨[some (.z (dI ns)), some (.d (.int (k : Int))), some (.c n), some (.d (pW W)), some (.d (.list E)), some (.c c), p6, some (.d (.str sh)), some (.d (.int (0 + (i3 : Int)))), some (.d x)], rfl, fun K3 k3 kr3 => ?_⟩
        have f1 := fun T => right_eq hok gx T
        simp [f1, eS, neS]
        exact k3 _ _ ⟨some (.d x), by simp, hc⟩
      · rintro ρ T ⟨s9, rfl, hc⟩
        exact k8 _ _ ⟨_, _, rfl, hc⟩
    · rintro ρ T ⟨p8, p9, rfl, hc⟩
      exact kn _ _ ⟨_, _, _, _, _, _, _, _, _, rfl⟩
  · rintro ρ T ⟨o1, o2, o3, o4, o5, o6, o7, o8, o9, rfl⟩
    refine kn _ _ ?_
    simp
end Z
set_option Elab.async false
set_option linter.all false
set_option maxRecDepth 100000
set_option maxHeartbeats 4000000
namespace Z
open PySem PySem.Spec PyProof.Rows L2 MV
structure Txt (K : PySem.W.Frag) (mg : Str → Option Value) : Prop where
  b_ValueError : mg "ValueError" = none
  b_abs : mg "abs" = none
  b_all : mg "all" = none
  b_bool : mg "bool" = none
  b_dict : mg "dict" = none
  b_enumerate : mg "enumerate" = none
  b_int : mg "int" = none
  b_isinstance : mg "isinstance" = none
  b_len : mg "len" = none
  b_list : mg "list" = none
  b_max : mg "max" = none
  b_min : mg "min" = none
  b_range : mg "range" = none
  b_set : mg "set" = none
  b_sorted : mg "sorted" = none
  b_str : mg "str" = none
  b_tuple : mg "tuple" = none
  b_zip : mg "zip" = none
  k_TIED : ∃ a, mg "TIED" = some (.ref a) ∧ KTup K a [.str (Str.ofString "cut"), .str (Str.ofString "draw")]
  np : noPair K = true
section
variable {P : Program} {w : World} {K : PySem.W.Frag} {mg : Str → Option Value} {base : Heap} {f : Addr} {fd : FuncData} {C fI B : Addr}
theorem sc_init : FnScope ["self", "number"] ["self", "number"] (defScope s_init) := ⟨rfl, rfl, rfl, by decide +kernel, rfl, by decide +kernel, by decide +kernel⟩
theorem ok_init (N : NoD K mg C fI B) (F : Fun K "__init__" "NoDeed.__init__" s_init fI fd) : FnOk P w K mg base CX0 1 fI fd ["self", "number"] (spI C) := by
  refine F.ok sc_init (fun vs H Q E h => ?_) (fun cdv A outer s H vs Q E hr h => ⟨_, pss_cons (ps_expr (pe_winit N rfl (pa_cons (pv 0) (pa_cons pe_str pa_nil)))) (pss_one (ps_ost (pv 0) (pv 1))), ?_⟩)
  · obtain ⟨a, n, rfl, _⟩ := h
    rfl
  · obtain ⟨a, n, rfl, ea, q⟩ := h
    refine ⟨.ref a, rfl, a, C, _, rfl, by decide, N.T, ea, ?_⟩
    refine ⟨.int n, rfl, .ref a, rfl, a, C, rfl, N.T, N.no, .inl ⟨ea, fun dx hd ne => q dx hd ne⟩⟩
theorem sc_is_whole : FnScope n_is_whole ["thing"] (defScope s_is_whole) := ⟨rfl, rfl, rfl, by decide +kernel, rfl, by decide +kernel, by decide +kernel⟩
theorem c_is_whole (T : Txt K mg) (R : RzF P w K mg base C fI B) (NW : NoW K mg C) (F : Fun K "is_whole" "is_whole" s_is_whole f fd) (hm : mg "is_whole" = some (.ref f))  : Cal P w K mg base 1 "is_whole" m_is_whole := by
  have hb := (F.binds (ps := ["thing"]) fun _ _ _ _ _ _ us hl => match us, hl with | [_], _ => rfl)
  have hc := @cal_mk P w K mg base "is_whole" "is_whole" s_is_whole f fd n_is_whole ["thing"] 0 1 y_is_whole F sc_is_whole rfl hm hb
  refine hc fun cdv A outer s H E hr gd => ?_
  have nd := sc_is_whole.nd
  have hu := hu_room hr
  exact ss1 (sRet (eAnd (eIsi (T := "int") (by simp) rfl T.b_isinstance rfl T.b_int (by decide +kernel) (eV 0)) (eOne (eNot (eIsi (T := "bool") (by simp) rfl T.b_isinstance
      rfl T.b_bool (by decide +kernel) (eV 0))))))
theorem sc_is_deed : FnScope n_is_deed ["web", "thing"] (defScope s_is_deed) := ⟨rfl, rfl, rfl, by decide +kernel, rfl, by decide +kernel, by decide +kernel⟩
theorem c_is_deed (T : Txt K mg) (R : RzF P w K mg base C fI B) (NW : NoW K mg C) (F : Fun K "is_deed" "is_deed" s_is_deed f fd) (hm : mg "is_deed" = some (.ref f)) (C_is_whole : Cal P w K mg base 1 "is_whole" m_is_whole) : Cal P w K mg base 2 "is_deed" m_is_deed := by
  have hb := (F.binds (ps := ["web", "thing"]) fun _ _ _ _ _ _ us hl => match us, hl with | [_, _], _ => rfl)
  have hc := @cal_mk P w K mg base "is_deed" "is_deed" s_is_deed f fd n_is_deed ["web", "thing"] 1 2 y_is_deed F sc_is_deed rfl hm hb
  refine hc fun cdv A outer s H E hr gd => ?_
  have nd := sc_is_deed.nd
  have hu := hu_room hr
  exact ssC (sIfR (bPw (wOr (bNo (bVal (eIsi (T := "tuple") (by simp) rfl T.b_isinstance rfl T.b_tuple (by decide +kernel) (eV 1)))) (wOr (bCmp (oLt hu) (eB bLen
      rfl T.b_len (by decide +kernel) (aC (eV 1) (aN))) (eInt)) (wOr1 (bNo (bVal (eIsi (T := "str") (by simp) rfl T.b_isinstance rfl T.b_str (by decide +kernel)
      (eIx hu (eV 1) (eInt))))))))) (ss1 (sRet (eBl))) (ssN)) (ssC (sIfR (bNo (bVal (eB (bAll rfl) rfl T.b_all (by decide +kernel) (aC (eComp (own := [("place",
      2)]) rfl nd (iS (eSl (eV 1) (poS (eInt)) (poN))) (blkOk_by (by kernel_rfl)) (by decide) (fun _ _ _ _ _ => gN (i := 2) nd rfl (by first | exact Or.inl rfl | exact Or.inr rfl)) (fun _ _ _ _ _ =>
      tsN) (fun _ _ _ _ _ => eCal C_is_whole hr gd (by first | decide | omega) rfl (aC (eV 2) (aN)))) (aN))))) (ss1 (sRet (eBl))) (ssN)) (ssC (sIfR (bCmp (oIn hu) (eIx hu (eV 1)
      (eInt)) (eCstT [(Str.ofString "cut"), (Str.ofString "draw")] rfl T.k_TIED)) (ss1 (sRet (eCmp (oIn hu) (eSl (eV 1) (poS (eInt)) (poN)) (eIx hu (eV 0) (eInt)))))
      (ssN)) (ss1 (sRet (eAnd (eCmp (oEq hu) (eIx hu (eV 1) (eInt)) (eStr)) (eAnd (eCmp (oEq hu) (eB bLen rfl T.b_len (by decide +kernel) (aC (eV 1) (aN)))
      (eInt)) (eOne (eCmp (oIn hu) (eIx hu (eV 1) (eInt)) (eIx hu (eV 0) (eInt))))))))))
theorem sc_drawn_tie : FnScope n_drawn_tie ["tie", "a", "b"] (defScope s_drawn_tie) := ⟨rfl, rfl, rfl, by decide +kernel, rfl, by decide +kernel, by decide +kernel⟩
theorem c_drawn_tie (T : Txt K mg) (R : RzF P w K mg base C fI B) (NW : NoW K mg C) (F : Fun K "drawn_tie" "drawn_tie" s_drawn_tie f fd) (hm : mg "drawn_tie" = some (.ref f))  : Cal P w K mg base 1 "drawn_tie" m_drawn_tie := by
  have hb := (F.binds (ps := ["tie", "a", "b"]) fun _ _ _ _ _ _ us hl => match us, hl with | [_, _, _], _ => rfl)
  have hc := @cal_mk P w K mg base "drawn_tie" "drawn_tie" s_drawn_tie f fd n_drawn_tie ["tie", "a", "b"] 0 3 y_drawn_tie F sc_drawn_tie rfl hm hb
  refine hc fun cdv A outer s H E hr gd => ?_
  have nd := sc_drawn_tie.nd
  have hu := hu_room hr
  exact ssC (sAsgR (eComp (own := [("place", 5)]) rfl nd (iS (eV 0)) (blkOk_by (by kernel_rfl)) (by decide) (fun _ _ _ _ _ => gN (i := 5) nd rfl (by first | exact Or.inl rfl | exact Or.inr rfl)) (fun _ _
      _ _ _ => tsN) (fun _ _ _ _ _ => eIf (bCmp (oEq hu) (eV 5) (eV 2)) (eV 1) (eV 5))) (gTL rfl (gsC (gN (i := 3) nd rfl (by first | exact Or.inl rfl | exact Or.inr rfl)) (gsC (gN (i := 4) nd rfl (by first | exact Or.inl rfl | exact Or.inr rfl))
      (gsN))))) (ssC (sIfR (bCmp (oEq hu) (eV 3) (eV 4)) (ss1 (sRet (eNon))) (ssN)) (ss1 (sRet (eTup (aC (eB (bMin rfl hu) rfl T.b_min (by decide +kernel) (aC
      (eV 3) (aC (eV 4) (aN)))) (aC (eB (bMax rfl hu) rfl T.b_max (by decide +kernel) (aC (eV 3) (aC (eV 4) (aN)))) (aN)))))))
theorem sc_drawn_together : FnScope n_drawn_together ["web", "a", "b"] (defScope s_drawn_together) := ⟨rfl, rfl, rfl, by decide +kernel, rfl, by decide +kernel, by decide +kernel⟩
theorem c_drawn_together (T : Txt K mg) (R : RzF P w K mg base C fI B) (NW : NoW K mg C) (F : Fun K "drawn_together" "drawn_together" s_drawn_together f fd) (hm : mg "drawn_together" = some (.ref f)) (C_drawn_tie : Cal P w K mg base 1 "drawn_tie" m_drawn_tie) : Cal P w K mg base 2 "drawn_together" m_drawn_together := by
  have hb := (F.binds (ps := ["web", "a", "b"]) fun _ _ _ _ _ _ us hl => match us, hl with | [_, _, _], _ => rfl)
  have hc := @cal_mk P w K mg base "drawn_together" "drawn_together" s_drawn_together f fd n_drawn_together ["web", "a", "b"] 1 3 y_drawn_together F sc_drawn_together rfl hm hb
  refine hc fun cdv A outer s H E hr gd => ?_
  have nd := sc_drawn_together.nd
  have hu := hu_room hr
  exact ssC (sSetLc 3 (own := [("tie", 5)]) rfl nd rfl rfl (sw_true rfl rfl rfl (by decide +kernel)) (iS (eIx hu (eV 0) (eInt))) (blkOk_by (by kernel_rfl)) (by decide)
      (fun _ _ _ _ _ => gN (i := 5) nd rfl (by first | exact Or.inl rfl | exact Or.inr rfl)) (fun _ _ _ _ _ => tsN) (fun _ _ _ _ _ => eCal C_drawn_tie hr gd (by first | decide | omega) rfl (aC (eV 5) (aC (eV 1) (aC (eV 2)
      (aN)))))) (ssC (sSetR 4 nd rfl (by first | exact Or.inl rfl | exact Or.inr rfl) (eSorS rfl hu rfl T.b_sorted rfl T.b_set (eComp (own := [("tie", 5)]) rfl nd (iS (eV 3)) (blkOk_by (by kernel_rfl))
      (by decide) (fun _ _ _ _ _ => gN (i := 5) nd rfl (by first | exact Or.inl rfl | exact Or.inr rfl)) (fun _ _ _ _ _ => ts1 (bCmp oNotN (eV 5) (eNon))) (fun _ _ _ _ _ => eV 5)))) (ss1 (sRet (eTup
      (aC (eT bTuple rfl T.b_tuple (by decide +kernel) (aC (eComp (own := [("place", 6)]) rfl nd (iS (eIx hu (eV 0) (eInt))) (blkOk_by (by kernel_rfl)) (by decide)
      (fun _ _ _ _ _ => gN (i := 6) nd rfl (by first | exact Or.inl rfl | exact Or.inr rfl)) (fun _ _ _ _ _ => ts1 (bCmp (oNe hu) (eV 6) (eV 2))) (fun _ _ _ _ _ => eV 6)) (aN))) (aC (eT bTuple rfl T.b_tuple
      (by decide +kernel) (aC (eV 4) (aN))) (aN)))))))
theorem sc_behind : FnScope n_behind ["web", "deed"] (defScope s_behind) := ⟨rfl, rfl, rfl, by decide +kernel, rfl, by decide +kernel, by decide +kernel⟩
theorem c_behind (T : Txt K mg) (R : RzF P w K mg base C fI B) (NW : NoW K mg C) (F : Fun K "behind" "behind" s_behind f fd) (hm : mg "behind" = some (.ref f)) (C_drawn_together : Cal P w K mg base 2 "drawn_together" m_drawn_together) : Cal P w K mg base 3 "behind" m_behind := by
  have hb := (F.binds (ps := ["web", "deed"]) fun _ _ _ _ _ _ us hl => match us, hl with | [_, _], _ => rfl)
  have hc := @cal_mk P w K mg base "behind" "behind" s_behind f fd n_behind ["web", "deed"] 2 2 y_behind F sc_behind rfl hm hb
  refine hc fun cdv A outer s H E hr gd => ?_
  have nd := sc_behind.nd
  have hu := hu_room hr
  exact ssC (sIfR (bCmp (oEq hu) (eIx hu (eV 1) (eInt)) (eStr)) (ss1 (sRet (eTup (aC (eIx hu (eV 0) (eInt)) (aC (eT bTuple rfl T.b_tuple (by decide +kernel) (aC
      (eComp (own := [("tie", 4)]) rfl nd (iS (eIx hu (eV 0) (eInt))) (blkOk_by (by kernel_rfl)) (by decide) (fun _ _ _ _ _ => gN (i := 4) nd rfl (by first | exact Or.inl rfl | exact Or.inr rfl)) (fun
      _ _ _ _ _ => ts1 (bCmp (oNe hu) (eV 4) (eSl (eV 1) (poS (eInt)) (poN)))) (fun _ _ _ _ _ => eV 4)) (aN))) (aN)))))) (ssN)) (ssC (sIfR (bCmp (oEq hu) (eIx
      hu (eV 1) (eInt)) (eStr)) (ss1 (sRet (eCal C_drawn_together hr gd (by first | decide | omega) rfl (aC (eV 0) (aC (eIx hu (eV 1) (eInt)) (aC (eIx hu (eV 1) (eInt)) (aN)))))))
      (ssN)) (ssC (sSetR 2 nd rfl (by first | exact Or.inl rfl | exact Or.inr rfl) (eT bTuple rfl T.b_tuple (by decide +kernel) (aC (eComp (own := [("place", 3)]) rfl nd (iS (eIx hu (eV 0) (eInt))) (blkOk_by
      (by kernel_rfl)) (by decide) (fun _ _ _ _ _ => gN (i := 3) nd rfl (by first | exact Or.inl rfl | exact Or.inr rfl)) (fun _ _ _ _ _ => ts1 (bCmp (oNe hu) (eV 3) (eIx hu (eV 1) (eInt)))) (fun _ _
      _ _ _ => eV 3)) (aN)))) (ss1 (sRet (eTup (aC (eV 2) (aC (eT bTuple rfl T.b_tuple (by decide +kernel) (aC (eComp (own := [("tie", 4)]) rfl nd (iS (eIx
      hu (eV 0) (eInt))) (blkOk_by (by kernel_rfl)) (by decide) (fun _ _ _ _ _ => gN (i := 4) nd rfl (by first | exact Or.inl rfl | exact Or.inr rfl)) (fun _ _ _ _ _ => ts1 (bCmp (oNotIn hu) (eIx hu
      (eV 1) (eInt)) (eV 4))) (fun _ _ _ _ _ => eV 4)) (aN))) (aN))))))))
theorem sc_played : FnScope n_played ["web", "row"] (defScope s_played) := ⟨rfl, rfl, rfl, by decide +kernel, rfl, by decide +kernel, by decide +kernel⟩
theorem c_played (T : Txt K mg) (R : RzF P w K mg base C fI B) (NW : NoW K mg C) (F : Fun K "played" "played" s_played f fd) (hm : mg "played" = some (.ref f)) (C_is_deed : Cal P w K mg base 2 "is_deed" m_is_deed) (C_behind : Cal P w K mg base 3 "behind" m_behind) : CalX P w K mg base C 4 "played" (mkFn 2 4 y_played) := by
  have hb := (F.binds (ps := ["web", "row"]) fun _ _ _ _ _ _ us hl => match us, hl with | [_, _], _ => rfl)
  have hc := @calX_mk P w K mg base C "played" "played" s_played f fd n_played ["web", "row"] 3 2 y_played F sc_played rfl hm hb
  refine hc fun cdv A outer s H E hr gd => ?_
  have nd := sc_played.nd
  have hu := hu_room hr
  have tk : Takes (cxOf (L2.CX P w) P w K mg base n_played "played" (defScope s_played) f cdv A outer s H E) (fun cls d _ H => E cls d H) := takes_of rfl rfl rfl rfl
  exact ssCX (sForX (passes_of rfl) rfl (iEn rfl T.b_enumerate (eV 1)) (gT rfl (gsC (gN (i := 2) nd rfl (by first | exact Or.inl rfl | exact Or.inr rfl)) (gsC (gN (i := 3) nd rfl (by first | exact Or.inl rfl | exact Or.inr rfl)) (gsN)))) (ssCX (sIfX'
      (bNo (bVal (eCal C_is_deed hr gd (by first | decide | omega) rfl (aC (eV 0) (aC (eV 3) (aN)))))) (ss1X (dRaise rfl R hr (by first | decide | omega) tk rfl (aC (eV 2) (aN)))) (ssNX)) (ss1X (sLiftX
      (sSetR 0 nd rfl (by first | exact Or.inl rfl | exact Or.inr rfl) (eCal C_behind hr gd (by first | decide | omega) rfl (aC (eV 0) (aC (eV 3) (aN))))))))) (ss1X (sLiftX (sRet (eV 0))))
theorem sc_done : FnScope n_done ["web", "deed"] (defScope s_done) := ⟨rfl, rfl, rfl, by decide +kernel, rfl, by decide +kernel, by decide +kernel⟩
theorem c_done (T : Txt K mg) (R : RzF P w K mg base C fI B) (NW : NoW K mg C) (F : Fun K "done" "done" s_done f fd) (hm : mg "done" = some (.ref f)) (C_played : Cal P w K mg base 4 "played" m_played) (D_played : CalX P w K mg base C 4 "played" (mkFn 2 4 y_played)) : CalX P w K mg base C 5 "done" (mkFn 2 2 y_done) := by
  have hb := (F.binds (ps := ["web", "deed"]) fun _ _ _ _ _ _ us hl => match us, hl with | [_, _], _ => rfl)
  have hc := @calX_mk P w K mg base C "done" "done" s_done f fd n_done ["web", "deed"] 4 2 y_done F sc_done rfl hm hb
  refine hc fun cdv A outer s H E hr gd => ?_
  have nd := sc_done.nd
  have hu := hu_room hr
  have tk : Takes (cxOf (L2.CX P w) P w K mg base n_done "done" (defScope s_done) f cdv A outer s H E) (fun cls d _ H => E cls d H) := takes_of rfl rfl rfl rfl
  exact ss1X (dRet D_played hr gd (by first | decide | omega) rfl tk (aC (eV 0) (aC (eTup (aC (eV 1) (aN))) (aN))))
theorem sc_l_cell : FnScope n_l_cell ["_law_script", "_law_k"] (defScope s_l_cell) := ⟨rfl, rfl, rfl, by decide +kernel, rfl, by decide +kernel, by decide +kernel⟩
theorem c_l_cell (T : Txt K mg) (R : RzF P w K mg base C fI B) (NW : NoW K mg C) (F : Fun K "_law_cell" "_law_cell" s_l_cell f fd) (hm : mg "_law_cell" = some (.ref f))  : Cal P w K mg base 1 "_law_cell" m_l_cell := by
  have hb := (F.binds (ps := ["_law_script", "_law_k"]) fun _ _ _ _ _ _ us hl => match us, hl with | [_, _], _ => rfl)
  have hc := @cal_mk P w K mg base "_law_cell" "_law_cell" s_l_cell f fd n_l_cell ["_law_script", "_law_k"] 0 2 y_l_cell F sc_l_cell rfl hm hb
  refine hc fun cdv A outer s H E hr gd => ?_
  have nd := sc_l_cell.nd
  have hu := hu_room hr
  exact ssC (sIfR (bCmp (oEq hu) (eB bLen rfl T.b_len (by decide +kernel) (aC (eV 0) (aN))) (eInt)) (ss1 (sRet (eInt))) (ssN)) (ss1 (sRet (eIx hu (eV 0) (eOp oMod
      (eV 1) (eB bLen rfl T.b_len (by decide +kernel) (aC (eV 0) (aN)))))))
theorem sc_l_left : FnScope n_l_left ["_law_script", "_law_k"] (defScope s_l_left) := ⟨rfl, rfl, rfl, by decide +kernel, rfl, by decide +kernel, by decide +kernel⟩
theorem c_l_left (T : Txt K mg) (R : RzF P w K mg base C fI B) (NW : NoW K mg C) (F : Fun K "_law_left" "_law_left" s_l_left f fd) (hm : mg "_law_left" = some (.ref f)) (C_l_cell : Cal P w K mg base 1 "_law_cell" m_l_cell) : Cal P w K mg base 2 "_law_left" m_l_left := by
  have hb := (F.binds (ps := ["_law_script", "_law_k"]) fun _ _ _ _ _ _ us hl => match us, hl with | [_, _], _ => rfl)
  have hc := @cal_mk P w K mg base "_law_left" "_law_left" s_l_left f fd n_l_left ["_law_script", "_law_k"] 1 2 y_l_left F sc_l_left rfl hm hb
  refine hc fun cdv A outer s H E hr gd => ?_
  have nd := sc_l_left.nd
  have hu := hu_room hr
  exact ssC (sSetR 2 nd rfl (by first | exact Or.inl rfl | exact Or.inr rfl) (eCal C_l_cell hr gd (by first | decide | omega) rfl (aC (eV 0) (aC (eV 1) (aN))))) (ssC (sSetR 3 nd rfl (by first | exact Or.inl rfl | exact Or.inr rfl) (eOp oMul (eOp oMod (eB bAbs rfl T.b_abs
      (by decide +kernel) (aC (eV 2) (aN))) (eOp oPow (eOp oPow (eInt) (eInt)) (eInt))) (eT bInt rfl T.b_int (by decide +kernel) (aC (eCmp (oGe hu) (eB bAbs
      rfl T.b_abs (by decide +kernel) (aC (eV 2) (aN))) (eOp oPow (eInt) (eInt))) (aN))))) (ss1 (sRet (eLst (aC (eV 3) (aC (eOp oMod (eOp oMul (eOp oAdd (eOp
      oAdd (eOp oMod (eV 2) (eInt)) (eOp oMul (eOp oMul (eInt) (eV 1)) (eV 1))) (eInt)) (eInt)) (eInt)) (aC (eInt) (aN))))))))
theorem sc_l_pick : FnScope n_l_pick ["_law_left_here", "_law_many"] (defScope s_l_pick) := ⟨rfl, rfl, rfl, by decide +kernel, rfl, by decide +kernel, by decide +kernel⟩
theorem c_l_pick (T : Txt K mg) (R : RzF P w K mg base C fI B) (NW : NoW K mg C) (F : Fun K "_law_pick" "_law_pick" s_l_pick f fd) (hm : mg "_law_pick" = some (.ref f))  : Cal P w K mg base 1 "_law_pick" m_l_pick := by
  have hb := (F.binds (ps := ["_law_left_here", "_law_many"]) fun _ _ _ _ _ _ us hl => match us, hl with | [_, _], _ => rfl)
  have hc := @cal_mk P w K mg base "_law_pick" "_law_pick" s_l_pick f fd n_l_pick ["_law_left_here", "_law_many"] 0 2 y_l_pick F sc_l_pick rfl hm hb
  refine hc fun cdv A outer s H E hr gd => ?_
  have nd := sc_l_pick.nd
  have hu := hu_room hr
  exact ssC (sIfR (bCmp (oGt hu) (eIx hu (eV 0) (eInt)) (eInt)) (ssC (sSetR 2 nd rfl (by first | exact Or.inl rfl | exact Or.inr rfl) (eOp oMod (eIx hu (eV 0) (eInt)) (eV 1))) (ssC (sPutR hu (eV 0) (eInt)
      (eOp oDiv (eIx hu (eV 0) (eInt)) (eV 1))) (ss1 (sRet (eV 2))))) (ssN)) (ssC (sPutR hu (eV 0) (eInt) (eOp oAdd (eIx hu (eV 0) (eInt)) (eInt))) (ssC (sPutR
      hu (eV 0) (eInt) (eOp oMod (eOp oAdd (eOp oAdd (eOp oMul (eIx hu (eV 0) (eInt)) (eInt)) (eInt)) (eOp oMul (eInt) (eIx hu (eV 0) (eInt)))) (eInt))) (ss1
      (sRet (eOp oMod (eOp oDiv (eOp oMod (eOp oMul (eIx hu (eV 0) (eInt)) (eOp oAdd (eOp oMod (eIx hu (eV 0) (eInt)) (eInt)) (eInt))) (eInt)) (eInt)) (eV 1))))))
theorem sc_l_web : FnScope n_l_web ["_law_left_here", "_law_most"] (defScope s_l_web) := ⟨rfl, rfl, rfl, by decide +kernel, rfl, by decide +kernel, by decide +kernel⟩
theorem c_l_web (T : Txt K mg) (R : RzF P w K mg base C fI B) (NW : NoW K mg C) (F : Fun K "_law_web" "_law_web" s_l_web f fd) (hm : mg "_law_web" = some (.ref f)) (C_l_pick : Cal P w K mg base 1 "_law_pick" m_l_pick) : Cal P w K mg base 2 "_law_web" m_l_web := by
  have hb := (F.binds (ps := ["_law_left_here", "_law_most"]) fun _ _ _ _ _ _ us hl => match us, hl with | [_, _], _ => rfl)
  have hc := @cal_mk P w K mg base "_law_web" "_law_web" s_l_web f fd n_l_web ["_law_left_here", "_law_most"] 1 2 y_l_web F sc_l_web rfl hm hb
  refine hc fun cdv A outer s H E hr gd => ?_
  have nd := sc_l_web.nd
  have hu := hu_room hr
  exact ssC (sParC 8 9 rfl nd rfl rfl (by decide) rfl rfl (aVC (eCal C_l_pick hr gd (by first | decide | omega) rfl (aC (eV 0) (aC (eInt) (aN)))) (aVC (eIx hu (eLst (aC (eInt) (aC (eInt)
      (aC (eInt) (aC (eInt) (aN)))))) (eCal C_l_pick hr gd (by first | decide | omega) rfl (aC (eV 0) (aC (eInt) (aN))))) (aNC)))) (ssC (sSetR 2 nd rfl (by first | exact Or.inl rfl | exact Or.inr rfl) (eIx hu (eLst (aC (eInt)
      (aC (eInt) (aC (eInt) (aC (eV 1) (aC (eOp oAdd (eInt) (eCal C_l_pick hr gd (by first | decide | omega) rfl (aC (eV 0) (aC (eOp oSub (eV 1) (eInt)) (aN))))) (aN))))))) (eV 8)))
      (ssC (sSetR 3 nd rfl (by first | exact Or.inl rfl | exact Or.inr rfl) (eCal C_l_pick hr gd (by first | decide | omega) rfl (aC (eV 0) (aC (eInt) (aN))))) (ssC (sSetR 4 nd rfl (by first | exact Or.inl rfl | exact Or.inr rfl) (eIx hu (eLst (aC (eInt) (aC (eInt)
      (aC (eInt) (aC (eInt) (aC (eInt) (aC (eInt) (aC (eInt) (aC (eInt) (aC (eInt) (aC (eInt) (aC (eInt) (aC (eInt) (aC (eInt) (aC (eInt) (aN))))))))))))))))
      (eCal C_l_pick hr gd (by first | decide | omega) rfl (aC (eV 0) (aC (eInt) (aN)))))) (ssC (sSetR 5 nd rfl (by first | exact Or.inl rfl | exact Or.inr rfl) (eB (bSorted hu) rfl T.b_sorted (by decide +kernel) (aC (eComp
      (own := [("_law_k", 11)]) rfl nd (iR1 rfl T.b_range (aC (eV 2) (aN))) (blkOk_by (by kernel_rfl)) (by decide) (fun _ _ _ _ _ => gN (i := 11) nd rfl (by first | exact Or.inl rfl | exact Or.inr rfl))
      (fun _ _ _ _ _ => tsN) (fun _ _ _ _ _ => eOp oMod (eOp oAdd (eV 3) (eOp oMul (eV 4) (eV 11))) (eInt))) (aN)))) (ssC (sCellR 6 nd rfl (by first | exact Or.inl rfl | exact Or.inr rfl) (eLst (aN)))
      (ssC (sFor PassesOwn.never rfl (iS (eV 5)) (gN (i := 7) nd rfl (by first | exact Or.inl rfl | exact Or.inr rfl)) (ss1 (sFor PassesOwn.never rfl (iS (eV 5)) (gN (i := 10) nd rfl (by first | exact Or.inl rfl | exact Or.inr rfl)) (ss1 (sIfR
      (bPw (wAnd (bCmp (oLt hu) (eV 10) (eV 7)) (wAnd (bCmp (oLt hu) (eB bLen rfl T.b_len (by decide +kernel) (aC (eV 6) (aN))) (eInt)) (wAnd1 (bCmp (oEq hu)
      (eCal C_l_pick hr gd (by first | decide | omega) rfl (aC (eV 0) (aC (eV 9) (aN)))) (eInt)))))) (ss1 (sExpr (eM PySem.F.plainAttrs_list PySem.F.slot_list_append PySem.F.type_list_append
      mAppend (eV 6) (aC (eTup (aC (eV 10) (aC (eV 7) (aN)))) (aN))))) (ssN)))))) (ss1 (sRet (eTup (aC (eT bTuple rfl T.b_tuple (by decide +kernel) (aC (eV
      5) (aN))) (aC (eT bTuple rfl T.b_tuple (by decide +kernel) (aC (eB (bSorted hu) rfl T.b_sorted (by decide +kernel) (aC (eV 6) (aN))) (aN))) (aN))))))))))))
theorem sc_l_all : FnScope n_l_all ["_law_web_here"] (defScope s_l_all) := ⟨rfl, rfl, rfl, by decide +kernel, rfl, by decide +kernel, by decide +kernel⟩
theorem c_l_all (T : Txt K mg) (R : RzF P w K mg base C fI B) (NW : NoW K mg C) (F : Fun K "_law_all" "_law_all" s_l_all f fd) (hm : mg "_law_all" = some (.ref f))  : Cal P w K mg base 1 "_law_all" m_l_all := by
  have hb := (F.binds (ps := ["_law_web_here"]) fun _ _ _ _ _ _ us hl => match us, hl with | [_], _ => rfl)
  have hc := @cal_mk P w K mg base "_law_all" "_law_all" s_l_all f fd n_l_all ["_law_web_here"] 0 1 y_l_all F sc_l_all rfl hm hb
  refine hc fun cdv A outer s H E hr gd => ?_
  have nd := sc_l_all.nd
  have hu := hu_room hr
  exact ssC (sSetLc 1 (own := [("_law_tie", 2)]) rfl nd rfl rfl (sw_true rfl rfl rfl (by decide +kernel)) (iS (eIx hu (eV 0) (eInt))) (blkOk_by (by kernel_rfl))
      (by decide) (fun _ _ _ _ _ => gN (i := 2) nd rfl (by first | exact Or.inl rfl | exact Or.inr rfl)) (fun _ _ _ _ _ => tsN) (fun _ _ _ _ _ => eOp oAdd (eTup (aC (eStr) (aN))) (eV 2))) (ss1 (sRet
      (eOp oAdd (eOp oAdd (eV 1) (eComp (own := [("_law_tie", 2)]) rfl nd (iS (eIx hu (eV 0) (eInt))) (blkOk_by (by kernel_rfl)) (by decide) (fun _ _ _ _ _
      => gN (i := 2) nd rfl (by first | exact Or.inl rfl | exact Or.inr rfl)) (fun _ _ _ _ _ => tsN) (fun _ _ _ _ _ => eOp oAdd (eTup (aC (eStr) (aN))) (eV 2)))) (eComp (own := [("_law_place", 3)]) rfl
      nd (iS (eIx hu (eV 0) (eInt))) (blkOk_by (by kernel_rfl)) (by decide) (fun _ _ _ _ _ => gN (i := 3) nd rfl (by first | exact Or.inl rfl | exact Or.inr rfl)) (fun _ _ _ _ _ => tsN) (fun _ _ _ _
      _ => eTup (aC (eStr) (aC (eV 3) (aN))))))))
theorem sc_l_spoilt : FnScope n_l_spoilt ["_law_left_here", "_law_web_here", "_law_deed"] (defScope s_l_spoilt) := ⟨rfl, rfl, rfl, by decide +kernel, rfl, by decide +kernel, by decide +kernel⟩
theorem c_l_spoilt (T : Txt K mg) (R : RzF P w K mg base C fI B) (NW : NoW K mg C) (F : Fun K "_law_spoilt" "_law_spoilt" s_l_spoilt f fd) (hm : mg "_law_spoilt" = some (.ref f)) (C_l_pick : Cal P w K mg base 1 "_law_pick" m_l_pick) : Cal P w K mg base 2 "_law_spoilt" m_l_spoilt := by
  have hb := (F.binds (ps := ["_law_left_here", "_law_web_here", "_law_deed"]) fun _ _ _ _ _ _ us hl => match us, hl with | [_, _, _], _ => rfl)
  have hc := @cal_mk P w K mg base "_law_spoilt" "_law_spoilt" s_l_spoilt f fd n_l_spoilt ["_law_left_here", "_law_web_here", "_law_deed"] 1 3 y_l_spoilt F sc_l_spoilt rfl hm hb
  refine hc fun cdv A outer s H E hr gd => ?_
  have nd := sc_l_spoilt.nd
  have hu := hu_room hr
  exact ssC (sParC 5 6 rfl nd rfl rfl (by decide) rfl rfl (aVC (eCal C_l_pick hr gd (by first | decide | omega) rfl (aC (eV 0) (aC (eInt) (aN)))) (aVC (eCal C_l_pick hr gd (by first | decide | omega) rfl
      (aC (eV 0) (aC (eB bLen rfl T.b_len (by decide +kernel) (aC (eV 2) (aN))) (aN)))) (aNC)))) (ssC (sSetR 3 nd rfl (by first | exact Or.inl rfl | exact Or.inr rfl) (eOp oSub (eCal C_l_pick hr gd (by first | decide | omega)
      rfl (aC (eV 0) (aC (eInt) (aN)))) (eInt))) (ssC (sIfR (bCmp (oEq hu) (eV 5) (eInt)) (ss1 (sRet (eOp oAdd (eOp oAdd (eSl (eV 2) (poN) (poS (eV 6))) (eTup
      (aC (eOp oMul (eV 3) (eT bInt rfl T.b_int (by decide +kernel) (aC (eCmp (oGt hu) (eV 6) (eInt)) (aN)))) (aN)))) (eSl (eV 2) (poS (eOp oAdd (eV 6) (eInt)))
      (poN))))) (ssN)) (ssC (sIfR (bCmp (oEq hu) (eV 5) (eInt)) (ss1 (sRet (eOp oAdd (eSl (eV 2) (poN) (poS (eInt))) (eRev (eSl (eV 2) (poS (eInt)) (poN))))))
      (ssN)) (ssC (sIfR (bCmp (oEq hu) (eV 5) (eInt)) (ss1 (sRet (eOp oAdd (eTup (aC (eIx hu (eLst (aC (eStr) (aC (eStr) (aC (eStr) (aC (eStr) (aC (eStr) (aC
      (eStr) (aC (eStr) (aC (eStr) (aN)))))))))) (eCal C_l_pick hr gd (by first | decide | omega) rfl (aC (eV 0) (aC (eInt) (aN))))) (aN))) (eSl (eV 2) (poS (eInt)) (poN))))) (ssN))
      (ssC (sIfR (bCmp (oEq hu) (eV 5) (eInt)) (ss1 (sRet (eOp oAdd (eSl (eV 2) (poN) (poS (eV 6))) (eSl (eV 2) (poS (eOp oAdd (eV 6) (eInt))) (poN))))) (ssN))
      (ssC (sIfR (bCmp (oEq hu) (eV 5) (eInt)) (ss1 (sRet (eOp oAdd (eV 2) (eTup (aC (eV 3) (aN)))))) (ssN)) (ssC (sIfR (bCmp (oEq hu) (eV 5) (eInt)) (ss1 (sRet
      (eIx hu (eLst (aC (eT bList rfl T.b_list (by decide +kernel) (aC (eV 2) (aN))) (aC (eTup (aC (eV 2) (aN))) (aC (eSl (eV 2) (poS (eInt)) (poN)) (aC (eT
      (bStr hu gd) rfl T.b_str (by decide +kernel) (aC (eV 2) (aN))) (aC (eOp oAdd (eSl (eV 2) (poN) (poS (eInt))) (eTup (aC (eSl (eV 2) (poS (eInt)) (poN))
      (aN)))) (aN))))))) (eCal C_l_pick hr gd (by first | decide | omega) rfl (aC (eV 0) (aC (eInt) (aN))))))) (ssN)) (ssC (sIfR (bCmp (oEq hu) (eV 5) (eInt)) (ssC (sSetR 4 nd rfl
      (by first | exact Or.inl rfl | exact Or.inr rfl) (eLst (aC (eBl) (aC (eBl) (aC (eNon) (aC (eStr) (aC (eLst (aC (eInt) (aN))) (aC (eTup (aC (eInt) (aN))) (aC (eT (bStr hu gd) rfl T.b_str (by decide +kernel)
      (aC (eIx hu (eV 2) (eNeg (eInt))) (aN))) (aC (eOp oSub (eNeg (eIx hu (eV 2) (eNeg (eInt)))) (eInt)) (aN))))))))))) (ss1 (sRet (eOp oAdd (eSl (eV 2) (poN)
      (poS (eNeg (eInt)))) (eTup (aC (eIx hu (eV 4) (eCal C_l_pick hr gd (by first | decide | omega) rfl (aC (eV 0) (aC (eInt) (aN))))) (aN))))))) (ssN)) (ssC (sIfR (bCmp (oEq hu)
      (eV 5) (eInt)) (ss1 (sRet (eTup (aC (eIx hu (eLst (aC (eStr) (aC (eStr) (aN)))) (eCal C_l_pick hr gd (by first | decide | omega) rfl (aC (eV 0) (aC (eInt) (aN))))) (aC (eCal
      C_l_pick hr gd (by first | decide | omega) rfl (aC (eV 0) (aC (eInt) (aN)))) (aC (eCal C_l_pick hr gd (by first | decide | omega) rfl (aC (eV 0) (aC (eInt) (aN)))) (aN))))))) (ssN)) (ssC (sSetR
      4 nd rfl (by first | exact Or.inl rfl | exact Or.inr rfl) (eLst (aC (eNon) (aC (eBl) (aC (eInt) (aC (eStr) (aC (eStr) (aC (eTup (aN)) (aC (eLst (aN)) (aC (eDic0) (aC (eTup (aC (eStr) (aN))) (aC
      (eTup (aC (eStr) (aN))) (aC (eTup (aC (eInt) (aC (eInt) (aN)))) (aC (eTup (aC (eStr) (aC (eTup (aN)) (aN)))) (aC (eTup (aC (eTup (aC (eStr) (aC (eInt)
      (aC (eInt) (aN))))) (aN))) (aC (eV 1) (aN))))))))))))))))) (ss1 (sRet (eIx hu (eV 4) (eCal C_l_pick hr gd (by first | decide | omega) rfl (aC (eV 0) (aC (eB bLen rfl T.b_len
      (by decide +kernel) (aC (eV 4) (aN))) (aN)))))))))))))))))
theorem sc_l_is_deed : FnScope n_l_is_deed ["_law_web_here", "_law_thing"] (defScope s_l_is_deed) := ⟨rfl, rfl, rfl, by decide +kernel, rfl, by decide +kernel, by decide +kernel⟩
theorem c_l_is_deed (T : Txt K mg) (R : RzF P w K mg base C fI B) (NW : NoW K mg C) (F : Fun K "_law_is_deed" "_law_is_deed" s_l_is_deed f fd) (hm : mg "_law_is_deed" = some (.ref f))  : Cal P w K mg base 1 "_law_is_deed" m_l_is_deed := by
  have hb := (F.binds (ps := ["_law_web_here", "_law_thing"]) fun _ _ _ _ _ _ us hl => match us, hl with | [_, _], _ => rfl)
  have hc := @cal_mk P w K mg base "_law_is_deed" "_law_is_deed" s_l_is_deed f fd n_l_is_deed ["_law_web_here", "_law_thing"] 0 2 y_l_is_deed F sc_l_is_deed rfl hm hb
  refine hc fun cdv A outer s H E hr gd => ?_
  have nd := sc_l_is_deed.nd
  have hu := hu_room hr
  exact ssC (sIfR (bPw (wOr (bNo (bVal (eIsi (T := "tuple") (by simp) rfl T.b_isinstance rfl T.b_tuple (by decide +kernel) (eV 1)))) (wOr (bCmp (oNotIn hu) (eB
      bLen rfl T.b_len (by decide +kernel) (aC (eV 1) (aN))) (eTup (aC (eInt) (aC (eInt) (aN))))) (wOr1 (bNo (bVal (eIsi (T := "str") (by simp) rfl T.b_isinstance
      rfl T.b_str (by decide +kernel) (eIx hu (eV 1) (eInt))))))))) (ss1 (sRet (eBl))) (ssN)) (ssC (sIfR (bNo (bVal (eB (bAll rfl) rfl T.b_all (by decide +kernel)
      (aC (eComp (own := [("_law_one", 2)]) rfl nd (iS (eSl (eV 1) (poS (eInt)) (poN))) (blkOk_by (by kernel_rfl)) (by decide) (fun _ _ _ _ _ => gN (i := 2)
      nd rfl (by first | exact Or.inl rfl | exact Or.inr rfl)) (fun _ _ _ _ _ => tsN) (fun _ _ _ _ _ => eAnd (eIsi (T := "int") (by simp) rfl T.b_isinstance rfl T.b_int (by decide +kernel) (eV 2)) (eOne
      (eNot (eIsi (T := "bool") (by simp) rfl T.b_isinstance rfl T.b_bool (by decide +kernel) (eV 2)))))) (aN))))) (ss1 (sRet (eBl))) (ssN)) (ssC (sIfR (bCmp
      (oEq hu) (eB bLen rfl T.b_len (by decide +kernel) (aC (eV 1) (aN))) (eInt)) (ss1 (sRet (eAnd (eCmp (oEq hu) (eIx hu (eV 1) (eInt)) (eStr)) (eOne (eCmp
      (oIn hu) (eIx hu (eV 1) (eInt)) (eIx hu (eV 0) (eInt))))))) (ssN)) (ss1 (sRet (eAnd (eCmp (oIn hu) (eIx hu (eV 1) (eInt)) (eTup (aC (eStr) (aC (eStr)
      (aN))))) (eOne (eCmp (oIn hu) (eSl (eV 1) (poS (eInt)) (poN)) (eIx hu (eV 0) (eInt)))))))))
theorem sc_l_behind : FnScope n_l_behind ["_law_web_here", "_law_deed"] (defScope s_l_behind) := ⟨rfl, rfl, rfl, by decide +kernel, rfl, by decide +kernel, by decide +kernel⟩
theorem c_l_behind (T : Txt K mg) (R : RzF P w K mg base C fI B) (NW : NoW K mg C) (F : Fun K "_law_behind" "_law_behind" s_l_behind f fd) (hm : mg "_law_behind" = some (.ref f))  : Cal P w K mg base 1 "_law_behind" m_l_behind := by
  have hb := (F.binds (ps := ["_law_web_here", "_law_deed"]) fun _ _ _ _ _ _ us hl => match us, hl with | [_, _], _ => rfl)
  have hc := @cal_mk P w K mg base "_law_behind" "_law_behind" s_l_behind f fd n_l_behind ["_law_web_here", "_law_deed"] 0 2 y_l_behind F sc_l_behind rfl hm hb
  refine hc fun cdv A outer s H E hr gd => ?_
  have nd := sc_l_behind.nd
  have hu := hu_room hr
  exact ssC (sIfR (bCmp (oEq hu) (eIx hu (eV 1) (eInt)) (eStr)) (ss1 (sRet (eTup (aC (eIx hu (eV 0) (eInt)) (aC (eT bTuple rfl T.b_tuple (by decide +kernel) (aC
      (eComp (own := [("_law_tie", 6)]) rfl nd (iS (eIx hu (eV 0) (eInt))) (blkOk_by (by kernel_rfl)) (by decide) (fun _ _ _ _ _ => gN (i := 6) nd rfl (by first | exact Or.inl rfl | exact Or.inr rfl))
      (fun _ _ _ _ _ => ts1 (bCmp (oNe hu) (eV 6) (eSl (eV 1) (poS (eInt)) (poN)))) (fun _ _ _ _ _ => eV 6)) (aN))) (aN)))))) (ssN)) (ssC (sSetR 2 nd rfl (by first | exact Or.inl rfl | exact Or.inr rfl)
      (eIx hu (eV 1) (eNeg (eInt)))) (ssC (sCellR 3 nd rfl (by first | exact Or.inl rfl | exact Or.inr rfl) (eT (bDictT hu T.np rfl) rfl T.b_dict (by decide +kernel) (aC (eComp (own := [("_law_tie",
      6)]) rfl nd (iS (eIx hu (eV 0) (eInt))) (blkOk_by (by kernel_rfl)) (by decide) (fun _ _ _ _ _ => gN (i := 6) nd rfl (by first | exact Or.inl rfl | exact Or.inr rfl)) (fun _ _ _ _ _ => ts1 (bCmp
      (oNotIn hu) (eV 2) (eV 6))) (fun _ _ _ _ _ => eTup (aC (eV 6) (aC (eBl) (aN))))) (aN)))) (ssC (sIfR (bCmp (oEq hu) (eIx hu (eV 1) (eInt)) (eStr)) (ss1
      (sFor PassesOwn.never rfl (iS (eIx hu (eV 0) (eInt))) (gT rfl (gsC (gN (i := 4) nd rfl (by first | exact Or.inl rfl | exact Or.inr rfl)) (gsC (gN (i := 5) nd rfl (by first | exact Or.inl rfl | exact Or.inr rfl)) (gsN)))) (ss1 (sIfR (bPw
      (wAnd (bCmp (oIn hu) (eV 2) (eTup (aC (eV 4) (aC (eV 5) (aN))))) (wAnd1 (bCmp (oNotIn hu) (eIx hu (eV 1) (eInt)) (eTup (aC (eV 4) (aC (eV 5) (aN))))))))
      (ssC (sSetR 7 nd rfl (by first | exact Or.inl rfl | exact Or.inr rfl) (eOp oSub (eOp oAdd (eV 4) (eV 5)) (eV 2))) (ss1 (sPutTR hu T.np (eV 3) (eTup (aC (eB (bMin rfl hu) rfl T.b_min (by decide +kernel)
      (aC (eV 7) (aC (eIx hu (eV 1) (eInt)) (aN)))) (aC (eB (bMax rfl hu) rfl T.b_max (by decide +kernel) (aC (eV 7) (aC (eIx hu (eV 1) (eInt)) (aN)))) (aN))))
      (eBl)))) (ssN))))) (ssN)) (ss1 (sRet (eTup (aC (eT bTuple rfl T.b_tuple (by decide +kernel) (aC (eComp (own := [("_law_place", 8)]) rfl nd (iS (eIx hu
      (eV 0) (eInt))) (blkOk_by (by kernel_rfl)) (by decide) (fun _ _ _ _ _ => gN (i := 8) nd rfl (by first | exact Or.inl rfl | exact Or.inr rfl)) (fun _ _ _ _ _ => ts1 (bCmp (oNe hu) (eV 8) (eV 2)))
      (fun _ _ _ _ _ => eV 8)) (aN))) (aC (eT bTuple rfl T.b_tuple (by decide +kernel) (aC (eB (bSortedT hu rfl) rfl T.b_sorted (by decide +kernel) (aC (eV
      3) (aN))) (aN))) (aN)))))))))
theorem sc_l_same : FnScope n_l_same ["_law_found", "_law_due"] (defScope s_l_same) := ⟨rfl, rfl, rfl, by decide +kernel, rfl, by decide +kernel, by decide +kernel⟩
theorem c_l_same (T : Txt K mg) (F : Fun K "_law_same" "_law_same" s_l_same f fd) (hm : mg "_law_same" = some (.ref f))  : ∀ n, Cal P w K mg base (1 + n) "_law_same" (m_l_same n)
  | 0 => cal_no F hm (F.binds (ps := ["_law_found", "_law_due"]) fun _ _ _ _ _ _ us hl => match us, hl with | [_, _], _ => rfl)
  | n + 1 => by
    have C_self := c_l_same T F hm  n
    have hb := (F.binds (ps := ["_law_found", "_law_due"]) fun _ _ _ _ _ _ us hl => match us, hl with | [_, _], _ => rfl)
    have hc := @cal_mk P w K mg base "_law_same" "_law_same" s_l_same f fd n_l_same ["_law_found", "_law_due"] (1 + n) 2 (y_l_same (m_l_same n)) F sc_l_same rfl hm hb
    refine hc fun cdv A outer s H E hr gd => ?_
    have nd := sc_l_same.nd
    have hu := hu_room hr
    exact ssC (sIfR (bVal (eIsi (T := "tuple") (by simp) rfl T.b_isinstance rfl T.b_tuple (by decide +kernel) (eV 1))) (ssC (sIfR (bPw (wOr (bNo (bVal (eIsi (T :=
      "tuple") (by simp) rfl T.b_isinstance rfl T.b_tuple (by decide +kernel) (eV 0)))) (wOr1 (bCmp (oNe hu) (eB bLen rfl T.b_len (by decide +kernel) (aC (eV
      0) (aN))) (eB bLen rfl T.b_len (by decide +kernel) (aC (eV 1) (aN))))))) (ss1 (sRet (eBl))) (ssN)) (ss1 (sRet (eB (bAll rfl) rfl T.b_all (by decide +kernel)
      (aC (eComp (own := [("_law_one", 2), ("_law_other", 3)]) rfl nd (iZ rfl T.b_zip (aC (eV 0) (aC (eV 1) (aN)))) (blkOk_by (by kernel_rfl)) (by decide) (fun
      _ _ _ _ _ => gT rfl (gsC (gN (i := 2) nd rfl (by first | exact Or.inl rfl | exact Or.inr rfl)) (gsC (gN (i := 3) nd rfl (by first | exact Or.inl rfl | exact Or.inr rfl)) (gsN)))) (fun _ _ _ _ _ => tsN) (fun _ _ _ _ _ => eCal C_self hr gd
      (by first | decide | omega) rfl (aC (eV 2) (aC (eV 3) (aN))))) (aN)))))) (ssN)) (ss1 (sRet (eAnd (eIsi (T := "int") (by simp) rfl T.b_isinstance rfl T.b_int (by decide +kernel)
      (eV 0)) (eAnd (eNot (eIsi (T := "bool") (by simp) rfl T.b_isinstance rfl T.b_bool (by decide +kernel) (eV 0))) (eOne (eCmp (oEq hu) (eV 0) (eV 1)))))))
theorem sc_l_right : FnScope n_l_right ["_law_web_here", "_law_thing"] (defScope s_l_right) := ⟨rfl, rfl, rfl, by decide +kernel, rfl, by decide +kernel, by decide +kernel⟩
theorem c_l_right (T : Txt K mg) (R : RzF P w K mg base C fI B) (NW : NoW K mg C) (F : Fun K "_law_right" "_law_right" s_l_right f fd) (hm : mg "_law_right" = some (.ref f)) (C_done : Cal P w K mg base 5 "done" m_done) (D_done : CalX P w K mg base C 5 "done" (mkFn 2 2 y_done)) (C_l_is_deed : Cal P w K mg base 1 "_law_is_deed" m_l_is_deed) (C_l_behind : Cal P w K mg base 1 "_law_behind" m_l_behind) (C_l_same : ∀ n, Cal P w K mg base (1 + n) "_law_same" (m_l_same n)) : Cal P w K mg base 42 "_law_right" m_l_right := by
  have hb := (F.binds (ps := ["_law_web_here", "_law_thing"]) fun _ _ _ _ _ _ us hl => match us, hl with | [_, _], _ => rfl)
  have hc := @cal_mk P w K mg base "_law_right" "_law_right" s_l_right f fd n_l_right ["_law_web_here", "_law_thing"] 41 2 y_l_right F sc_l_right rfl hm hb
  refine hc fun cdv A outer s H E hr gd => ?_
  have nd := sc_l_right.nd
  have hu := hu_room hr
  exact ssC (sAsgR (eTup (aC (eNon) (aC (eNon) (aN)))) (gT rfl (gsC (gN (i := 3) nd rfl (by first | exact Or.inl rfl | exact Or.inr rfl)) (gsC (gN (i := 4) nd rfl (by first | exact Or.inl rfl | exact Or.inr rfl)) (gsN))))) (ssC (dTryW 3 2 4 rfl rfl
      nd rfl (by first | exact Or.inl rfl | exact Or.inr rfl) rfl rfl rfl (by first | exact Or.inl rfl | exact Or.inr rfl) R.no NW (by decide) rfl rfl rfl rfl rfl rfl rfl rfl rfl rfl D_done hr gd (by first | decide | omega) rfl (fun _ _ => (aC (eV 0) (aC (eV 1) (aN)))))
      (ssC (sIfR (bNo (bVal (eCal C_l_is_deed hr gd (by first | decide | omega) rfl (aC (eV 0) (aC (eV 1) (aN)))))) (ss1 (sRet (eAnd (eCmp oIsN (eV 3) (eNon)) (eOne (eCal (C_l_same
      40) hr gd (by first | decide | omega) rfl (aC (eV 4) (aC (eInt) (aN)))))))) (ssN)) (ss1 (sRet (eAnd (eCmp oIsN (eV 4) (eNon)) (eOne (eCal (C_l_same 40) hr gd (by first | decide | omega) rfl (aC
      (eV 3) (aC (eCal C_l_behind hr gd (by first | decide | omega) rfl (aC (eV 0) (aC (eV 1) (aN)))) (aN))))))))))
theorem sc_law : FnScope n_law ["_law_script"] (defScope s_law) := ⟨rfl, rfl, rfl, by decide +kernel, rfl, by decide +kernel, by decide +kernel⟩

theorem o_law (T : Txt K mg) (R : RzF P w K mg base C fI B) (NW : NoW K mg C) (F : Fun K "law" "law" s_law f fd) (C_l_left : Cal P w K mg base 2 "_law_left" m_l_left) (C_l_pick : Cal P w K mg base 1 "_law_pick" m_l_pick) (C_l_web : Cal P w K mg base 2 "_law_web" m_l_web) (C_l_all : Cal P w K mg base 1 "_law_all" m_l_all) (C_l_spoilt : Cal P w K mg base 2 "_law_spoilt" m_l_spoilt) (C_l_right : Cal P w K mg base 42 "_law_right" m_l_right) : FnG P w K mg base 43 f fd ["_law_script"] (spF K m_law) := by
  have hc := @fn_ok K P w mg base "law" "law" s_law f fd n_law ["_law_script"] 42 1 y_law F sc_law rfl
  refine hc fun cdv A outer s H E hr gd => ?_
  have nd := sc_law.nd
  have hu := hu_room hr
  exact ssC (sFor PassesOwn.never rfl (iR1 rfl T.b_range (aC (eOp oAdd (eInt) (eB (bMin rfl hu) rfl T.b_min (by decide +kernel) (aC (eInt) (aC (eB bLen rfl T.b_len
      (by decide +kernel) (aC (eV 0) (aN))) (aN))))) (aN))) (gN (i := 1) nd rfl (by first | exact Or.inl rfl | exact Or.inr rfl)) (ssC (sCellR 2 nd rfl (by first | exact Or.inl rfl | exact Or.inr rfl) (eCal C_l_left hr gd (by first | decide | omega) rfl (aC (eV 0)
      (aC (eV 1) (aN))))) (ssC (sSetR 3 nd rfl (by first | exact Or.inl rfl | exact Or.inr rfl) (eCal C_l_web hr gd (by first | decide | omega) rfl (aC (eV 2) (aC (eInt) (aN))))) (ssC (sSetR 4 nd rfl (by first | exact Or.inl rfl | exact Or.inr rfl) (eCal C_l_all hr
      gd (by first | decide | omega) rfl (aC (eV 3) (aN)))) (ssC (sCellLc 5 (own := [("_law_turn", 6)]) rfl nd rfl rfl (sw_true rfl rfl rfl (by decide +kernel)) (iR1 rfl T.b_range
      (aC (eInt) (aN))) (blkOk_by (by kernel_rfl)) (by decide) (fun _ _ _ _ _ => gN (i := 6) nd rfl (by first | exact Or.inl rfl | exact Or.inr rfl)) (fun _ _ _ _ _ => tsN) (fun _ _ _ _ _ => eCal C_l_spoilt
      hr gd (by first | decide | omega) rfl (aC (eV 2) (aC (eV 3) (aC (eTup (aC (eStr) (aC (eInt) (aC (eInt) (aN))))) (aN)))))) (ssC (sFor PassesOwn.never rfl (iR1 rfl T.b_range
      (aC (eOp oMul (eInt) (eT bInt rfl T.b_int (by decide +kernel) (aC (eCmp (oNe hu) (eV 4) (eLst (aN))) (aN)))) (aN))) (gN (i := 6) nd rfl (by first | exact Or.inl rfl | exact Or.inr rfl)) (ss1 (sExpr
      (eM PySem.F.plainAttrs_list PySem.F.slot_list_append PySem.F.type_list_append mAppend (eV 5) (aC (eCal C_l_spoilt hr gd (by first | decide | omega) rfl (aC (eV 2) (aC (eV 3)
      (aC (eIx hu (eV 4) (eCal C_l_pick hr gd (by first | decide | omega) rfl (aC (eV 2) (aC (eB bLen rfl T.b_len (by decide +kernel) (aC (eV 4) (aN))) (aN))))) (aN))))) (aN))))))
      (ssC (sSetR 7 nd rfl (by first | exact Or.inl rfl | exact Or.inr rfl) (eT (bStr hu gd) rfl T.b_str (by decide +kernel) (aC (eV 3) (aN)))) (ss1 (sFor PassesOwn.never rfl (iR1 rfl T.b_range (aC (eInt)
      (aN))) (gN (i := 8) nd rfl (by first | exact Or.inl rfl | exact Or.inr rfl)) (ss1 (sFor PassesOwn.never rfl (iS (eOp oAdd (eV 4) (eV 5))) (gN (i := 9) nd rfl (by first | exact Or.inl rfl | exact Or.inr rfl)) (ss1 (sIfR (bPw (wOr (bNo (bVal
      (eCal C_l_right hr gd (by first | decide | omega) rfl (aC (eV 3) (aC (eV 9) (aN)))))) (wOr1 (bCmp (oNe hu) (eT (bStr hu gd) rfl T.b_str (by decide +kernel) (aC (eV 3) (aN)))
      (eV 7))))) (ss1 (sRet (eBl))) (ssN)))))))))))))) (ss1 (sRet (eBl)))
end
end Z
set_option Elab.async false
set_option linter.all false
set_option maxRecDepth 100000
namespace Z
open PySem PySem.Spec PyProof.Rows L2 MV
theorem all_mk {l : PySem.W.OpenLaw} {w : World} {K : PySem.W.Frag} {h : Heap} {mg : Str → Option Value} {fa f_is_whole f_is_deed f_drawn_tie f_drawn_together f_behind f_played f_done f_l_cell f_l_left f_l_pick f_l_web f_l_all f_l_spoilt f_l_is_deed f_l_behind f_l_same f_l_right f_law : Addr} (X : K.In h) (G : h.Ns mainGlobals mg) (hfa : mg "law" = some (.ref fa))
    {od_is_whole an_is_whole : Option Addr} {sl_is_whole : Array (Option Value)} {oc_is_whole kV_is_whole dc_is_whole pm_is_whole cd_is_whole ct_is_whole : Value}
    (a_is_whole : PySem.W.nsIn K mainGlobals "is_whole" = some (some (.ref f_is_whole))) (l_is_whole : K.lookup f_is_whole = some ⟨oc_is_whole, od_is_whole, .func (PySem.W.fnOf "is_whole" "is_whole" (defArgs s_is_whole) (defBody s_is_whole) (defScope s_is_whole) .none kV_is_whole dc_is_whole pm_is_whole an_is_whole cd_is_whole ct_is_whole), sl_is_whole⟩) (h_is_whole : PySem.W.codeIn K cd_is_whole "is_whole" = true) (k_is_whole : PySem.W.keepIn K (.ref f_is_whole) = true)
    {od_is_deed an_is_deed : Option Addr} {sl_is_deed : Array (Option Value)} {oc_is_deed kV_is_deed dc_is_deed pm_is_deed cd_is_deed ct_is_deed : Value}
    (a_is_deed : PySem.W.nsIn K mainGlobals "is_deed" = some (some (.ref f_is_deed))) (l_is_deed : K.lookup f_is_deed = some ⟨oc_is_deed, od_is_deed, .func (PySem.W.fnOf "is_deed" "is_deed" (defArgs s_is_deed) (defBody s_is_deed) (defScope s_is_deed) .none kV_is_deed dc_is_deed pm_is_deed an_is_deed cd_is_deed ct_is_deed), sl_is_deed⟩) (h_is_deed : PySem.W.codeIn K cd_is_deed "is_deed" = true) (k_is_deed : PySem.W.keepIn K (.ref f_is_deed) = true)
    {od_drawn_tie an_drawn_tie : Option Addr} {sl_drawn_tie : Array (Option Value)} {oc_drawn_tie kV_drawn_tie dc_drawn_tie pm_drawn_tie cd_drawn_tie ct_drawn_tie : Value}
    (a_drawn_tie : PySem.W.nsIn K mainGlobals "drawn_tie" = some (some (.ref f_drawn_tie))) (l_drawn_tie : K.lookup f_drawn_tie = some ⟨oc_drawn_tie, od_drawn_tie, .func (PySem.W.fnOf "drawn_tie" "drawn_tie" (defArgs s_drawn_tie) (defBody s_drawn_tie) (defScope s_drawn_tie) .none kV_drawn_tie dc_drawn_tie pm_drawn_tie an_drawn_tie cd_drawn_tie ct_drawn_tie), sl_drawn_tie⟩) (h_drawn_tie : PySem.W.codeIn K cd_drawn_tie "drawn_tie" = true) (k_drawn_tie : PySem.W.keepIn K (.ref f_drawn_tie) = true)
    {od_drawn_together an_drawn_together : Option Addr} {sl_drawn_together : Array (Option Value)} {oc_drawn_together kV_drawn_together dc_drawn_together pm_drawn_together cd_drawn_together ct_drawn_together : Value}
    (a_drawn_together : PySem.W.nsIn K mainGlobals "drawn_together" = some (some (.ref f_drawn_together))) (l_drawn_together : K.lookup f_drawn_together = some ⟨oc_drawn_together, od_drawn_together, .func (PySem.W.fnOf "drawn_together" "drawn_together" (defArgs s_drawn_together) (defBody s_drawn_together) (defScope s_drawn_together) .none kV_drawn_together dc_drawn_together pm_drawn_together an_drawn_together cd_drawn_together ct_drawn_together), sl_drawn_together⟩) (h_drawn_together : PySem.W.codeIn K cd_drawn_together "drawn_together" = true) (k_drawn_together : PySem.W.keepIn K (.ref f_drawn_together) = true)
    {od_behind an_behind : Option Addr} {sl_behind : Array (Option Value)} {oc_behind kV_behind dc_behind pm_behind cd_behind ct_behind : Value}
    (a_behind : PySem.W.nsIn K mainGlobals "behind" = some (some (.ref f_behind))) (l_behind : K.lookup f_behind = some ⟨oc_behind, od_behind, .func (PySem.W.fnOf "behind" "behind" (defArgs s_behind) (defBody s_behind) (defScope s_behind) .none kV_behind dc_behind pm_behind an_behind cd_behind ct_behind), sl_behind⟩) (h_behind : PySem.W.codeIn K cd_behind "behind" = true) (k_behind : PySem.W.keepIn K (.ref f_behind) = true)
    {od_played an_played : Option Addr} {sl_played : Array (Option Value)} {oc_played kV_played dc_played pm_played cd_played ct_played : Value}
    (a_played : PySem.W.nsIn K mainGlobals "played" = some (some (.ref f_played))) (l_played : K.lookup f_played = some ⟨oc_played, od_played, .func (PySem.W.fnOf "played" "played" (defArgs s_played) (defBody s_played) (defScope s_played) .none kV_played dc_played pm_played an_played cd_played ct_played), sl_played⟩) (h_played : PySem.W.codeIn K cd_played "played" = true) (k_played : PySem.W.keepIn K (.ref f_played) = true)
    {od_done an_done : Option Addr} {sl_done : Array (Option Value)} {oc_done kV_done dc_done pm_done cd_done ct_done : Value}
    (a_done : PySem.W.nsIn K mainGlobals "done" = some (some (.ref f_done))) (l_done : K.lookup f_done = some ⟨oc_done, od_done, .func (PySem.W.fnOf "done" "done" (defArgs s_done) (defBody s_done) (defScope s_done) .none kV_done dc_done pm_done an_done cd_done ct_done), sl_done⟩) (h_done : PySem.W.codeIn K cd_done "done" = true) (k_done : PySem.W.keepIn K (.ref f_done) = true)
    {od_l_cell an_l_cell : Option Addr} {sl_l_cell : Array (Option Value)} {oc_l_cell kV_l_cell dc_l_cell pm_l_cell cd_l_cell ct_l_cell : Value}
    (a_l_cell : PySem.W.nsIn K mainGlobals "_law_cell" = some (some (.ref f_l_cell))) (l_l_cell : K.lookup f_l_cell = some ⟨oc_l_cell, od_l_cell, .func (PySem.W.fnOf "_law_cell" "_law_cell" (defArgs s_l_cell) (defBody s_l_cell) (defScope s_l_cell) .none kV_l_cell dc_l_cell pm_l_cell an_l_cell cd_l_cell ct_l_cell), sl_l_cell⟩) (h_l_cell : PySem.W.codeIn K cd_l_cell "_law_cell" = true) (k_l_cell : PySem.W.keepIn K (.ref f_l_cell) = true)
    {od_l_left an_l_left : Option Addr} {sl_l_left : Array (Option Value)} {oc_l_left kV_l_left dc_l_left pm_l_left cd_l_left ct_l_left : Value}
    (a_l_left : PySem.W.nsIn K mainGlobals "_law_left" = some (some (.ref f_l_left))) (l_l_left : K.lookup f_l_left = some ⟨oc_l_left, od_l_left, .func (PySem.W.fnOf "_law_left" "_law_left" (defArgs s_l_left) (defBody s_l_left) (defScope s_l_left) .none kV_l_left dc_l_left pm_l_left an_l_left cd_l_left ct_l_left), sl_l_left⟩) (h_l_left : PySem.W.codeIn K cd_l_left "_law_left" = true) (k_l_left : PySem.W.keepIn K (.ref f_l_left) = true)
    {od_l_pick an_l_pick : Option Addr} {sl_l_pick : Array (Option Value)} {oc_l_pick kV_l_pick dc_l_pick pm_l_pick cd_l_pick ct_l_pick : Value}
    (a_l_pick : PySem.W.nsIn K mainGlobals "_law_pick" = some (some (.ref f_l_pick))) (l_l_pick : K.lookup f_l_pick = some ⟨oc_l_pick, od_l_pick, .func (PySem.W.fnOf "_law_pick" "_law_pick" (defArgs s_l_pick) (defBody s_l_pick) (defScope s_l_pick) .none kV_l_pick dc_l_pick pm_l_pick an_l_pick cd_l_pick ct_l_pick), sl_l_pick⟩) (h_l_pick : PySem.W.codeIn K cd_l_pick "_law_pick" = true) (k_l_pick : PySem.W.keepIn K (.ref f_l_pick) = true)
    {od_l_web an_l_web : Option Addr} {sl_l_web : Array (Option Value)} {oc_l_web kV_l_web dc_l_web pm_l_web cd_l_web ct_l_web : Value}
    (a_l_web : PySem.W.nsIn K mainGlobals "_law_web" = some (some (.ref f_l_web))) (l_l_web : K.lookup f_l_web = some ⟨oc_l_web, od_l_web, .func (PySem.W.fnOf "_law_web" "_law_web" (defArgs s_l_web) (defBody s_l_web) (defScope s_l_web) .none kV_l_web dc_l_web pm_l_web an_l_web cd_l_web ct_l_web), sl_l_web⟩) (h_l_web : PySem.W.codeIn K cd_l_web "_law_web" = true) (k_l_web : PySem.W.keepIn K (.ref f_l_web) = true)
    {od_l_all an_l_all : Option Addr} {sl_l_all : Array (Option Value)} {oc_l_all kV_l_all dc_l_all pm_l_all cd_l_all ct_l_all : Value}
    (a_l_all : PySem.W.nsIn K mainGlobals "_law_all" = some (some (.ref f_l_all))) (l_l_all : K.lookup f_l_all = some ⟨oc_l_all, od_l_all, .func (PySem.W.fnOf "_law_all" "_law_all" (defArgs s_l_all) (defBody s_l_all) (defScope s_l_all) .none kV_l_all dc_l_all pm_l_all an_l_all cd_l_all ct_l_all), sl_l_all⟩) (h_l_all : PySem.W.codeIn K cd_l_all "_law_all" = true) (k_l_all : PySem.W.keepIn K (.ref f_l_all) = true)
    {od_l_spoilt an_l_spoilt : Option Addr} {sl_l_spoilt : Array (Option Value)} {oc_l_spoilt kV_l_spoilt dc_l_spoilt pm_l_spoilt cd_l_spoilt ct_l_spoilt : Value}
    (a_l_spoilt : PySem.W.nsIn K mainGlobals "_law_spoilt" = some (some (.ref f_l_spoilt))) (l_l_spoilt : K.lookup f_l_spoilt = some ⟨oc_l_spoilt, od_l_spoilt, .func (PySem.W.fnOf "_law_spoilt" "_law_spoilt" (defArgs s_l_spoilt) (defBody s_l_spoilt) (defScope s_l_spoilt) .none kV_l_spoilt dc_l_spoilt pm_l_spoilt an_l_spoilt cd_l_spoilt ct_l_spoilt), sl_l_spoilt⟩) (h_l_spoilt : PySem.W.codeIn K cd_l_spoilt "_law_spoilt" = true) (k_l_spoilt : PySem.W.keepIn K (.ref f_l_spoilt) = true)
    {od_l_is_deed an_l_is_deed : Option Addr} {sl_l_is_deed : Array (Option Value)} {oc_l_is_deed kV_l_is_deed dc_l_is_deed pm_l_is_deed cd_l_is_deed ct_l_is_deed : Value}
    (a_l_is_deed : PySem.W.nsIn K mainGlobals "_law_is_deed" = some (some (.ref f_l_is_deed))) (l_l_is_deed : K.lookup f_l_is_deed = some ⟨oc_l_is_deed, od_l_is_deed, .func (PySem.W.fnOf "_law_is_deed" "_law_is_deed" (defArgs s_l_is_deed) (defBody s_l_is_deed) (defScope s_l_is_deed) .none kV_l_is_deed dc_l_is_deed pm_l_is_deed an_l_is_deed cd_l_is_deed ct_l_is_deed), sl_l_is_deed⟩) (h_l_is_deed : PySem.W.codeIn K cd_l_is_deed "_law_is_deed" = true) (k_l_is_deed : PySem.W.keepIn K (.ref f_l_is_deed) = true)
    {od_l_behind an_l_behind : Option Addr} {sl_l_behind : Array (Option Value)} {oc_l_behind kV_l_behind dc_l_behind pm_l_behind cd_l_behind ct_l_behind : Value}
    (a_l_behind : PySem.W.nsIn K mainGlobals "_law_behind" = some (some (.ref f_l_behind))) (l_l_behind : K.lookup f_l_behind = some ⟨oc_l_behind, od_l_behind, .func (PySem.W.fnOf "_law_behind" "_law_behind" (defArgs s_l_behind) (defBody s_l_behind) (defScope s_l_behind) .none kV_l_behind dc_l_behind pm_l_behind an_l_behind cd_l_behind ct_l_behind), sl_l_behind⟩) (h_l_behind : PySem.W.codeIn K cd_l_behind "_law_behind" = true) (k_l_behind : PySem.W.keepIn K (.ref f_l_behind) = true)
    {od_l_same an_l_same : Option Addr} {sl_l_same : Array (Option Value)} {oc_l_same kV_l_same dc_l_same pm_l_same cd_l_same ct_l_same : Value}
    (a_l_same : PySem.W.nsIn K mainGlobals "_law_same" = some (some (.ref f_l_same))) (l_l_same : K.lookup f_l_same = some ⟨oc_l_same, od_l_same, .func (PySem.W.fnOf "_law_same" "_law_same" (defArgs s_l_same) (defBody s_l_same) (defScope s_l_same) .none kV_l_same dc_l_same pm_l_same an_l_same cd_l_same ct_l_same), sl_l_same⟩) (h_l_same : PySem.W.codeIn K cd_l_same "_law_same" = true) (k_l_same : PySem.W.keepIn K (.ref f_l_same) = true)
    {od_l_right an_l_right : Option Addr} {sl_l_right : Array (Option Value)} {oc_l_right kV_l_right dc_l_right pm_l_right cd_l_right ct_l_right : Value}
    (a_l_right : PySem.W.nsIn K mainGlobals "_law_right" = some (some (.ref f_l_right))) (l_l_right : K.lookup f_l_right = some ⟨oc_l_right, od_l_right, .func (PySem.W.fnOf "_law_right" "_law_right" (defArgs s_l_right) (defBody s_l_right) (defScope s_l_right) .none kV_l_right dc_l_right pm_l_right an_l_right cd_l_right ct_l_right), sl_l_right⟩) (h_l_right : PySem.W.codeIn K cd_l_right "_law_right" = true) (k_l_right : PySem.W.keepIn K (.ref f_l_right) = true)
    {od_law an_law : Option Addr} {sl_law : Array (Option Value)} {oc_law kV_law dc_law pm_law cd_law ct_law : Value}
    (a_law : PySem.W.nsIn K mainGlobals "law" = some (some (.ref f_law))) (l_law : K.lookup f_law = some ⟨oc_law, od_law, .func (PySem.W.fnOf "law" "law" (defArgs s_law) (defBody s_law) (defScope s_law) .none kV_law dc_law pm_law an_law cd_law ct_law), sl_law⟩) (h_law : PySem.W.codeIn K cd_law "law" = true) (k_law : PySem.W.keepIn K (.ref f_law) = true)
    (z_ValueError : PySem.W.nsIn K mainGlobals "ValueError" = some none)
    (z_abs : PySem.W.nsIn K mainGlobals "abs" = some none)
    (z_all : PySem.W.nsIn K mainGlobals "all" = some none)
    (z_bool : PySem.W.nsIn K mainGlobals "bool" = some none)
    (z_dict : PySem.W.nsIn K mainGlobals "dict" = some none)
    (z_enumerate : PySem.W.nsIn K mainGlobals "enumerate" = some none)
    (z_int : PySem.W.nsIn K mainGlobals "int" = some none)
    (z_isinstance : PySem.W.nsIn K mainGlobals "isinstance" = some none)
    (z_len : PySem.W.nsIn K mainGlobals "len" = some none)
    (z_list : PySem.W.nsIn K mainGlobals "list" = some none)
    (z_max : PySem.W.nsIn K mainGlobals "max" = some none)
    (z_min : PySem.W.nsIn K mainGlobals "min" = some none)
    (z_range : PySem.W.nsIn K mainGlobals "range" = some none)
    (z_set : PySem.W.nsIn K mainGlobals "set" = some none)
    (z_sorted : PySem.W.nsIn K mainGlobals "sorted" = some none)
    (z_str : PySem.W.nsIn K mainGlobals "str" = some none)
    (z_tuple : PySem.W.nsIn K mainGlobals "tuple" = some none)
    (z_zip : PySem.W.nsIn K mainGlobals "zip" = some none)
    {q_TIED : Addr} {od_TIED : Option Addr} {n_TIED : Nat} {sl_TIED : Array (Option Value)} {t_TIED u_TIED : Tok} (x_TIED : PySem.W.nsIn K mainGlobals "TIED" = some (some (.ref q_TIED))) (y_TIED : K.lookup q_TIED = some ⟨.type "tuple", od_TIED, .seq #[.str (Str.ofString "cut") t_TIED, .str (Str.ofString "draw") u_TIED] n_TIED, sl_TIED⟩)
    (np : noPair K = true)
    {cC cB cI e_N : Addr} {e_nm e_q : Str} {e_bs e_sub : List Value} {e_sn : List Str} {e_ab : Bool} {e_col : Option Bool} {e_dd od_I an_I : Option Addr} {e_0 e_1 e_2 e_3 e_5 : Option Value} {oc_I kV_I dc_I pm_I cd_I ct_I : Value} {sl_I : Array (Option Value)}
    {c_Lacks c_NoBack c_NoLine c_NoText c_NoWall c_OfKind : Addr}
    (aNC : PySem.W.nsIn K mainGlobals "NoDeed" = some (some (.ref cC)))
    (aNB : PySem.W.nsIn K mainGlobals "WebError" = some (some (.ref cB)))
    (xNC : K.lookup cC = some (excClassObj e_nm e_q cC e_N e_bs [.ref cB, .type "ValueError", .type "Exception", .type "BaseException", .type "object"] true e_sn e_sub e_ab e_col e_dd e_0 e_1 e_2 e_3 e_5 "ValueError.__new__"))
    (sNC : PySem.W.findIn K (.ref cC) "__setattr__" = some (some (.builtin "object.__setattr__")))
    (gNC : PySem.W.findIn K (.ref cC) "__getattribute__" = some (some (.builtin "BaseException.__getattribute__")))
    (ggNC : PySem.W.findIn K (.ref cC) "__getattr__" = some none)
    (nNC : PySem.W.findIn K (.ref cC) "number" = some none)
    (iNC : PySem.W.findIn K (.ref cC) "__init__" = some (some (.ref cI)))
    (tNI : PySem.W.typeIn K (.ref cI) = some (.type "function"))
    (lNI : K.lookup cI = some ⟨oc_I, od_I, .func (PySem.W.fnOf "__init__" "NoDeed.__init__" (defArgs s_init) (defBody s_init) (defScope s_init) .none kV_I dc_I pm_I an_I cd_I ct_I), sl_I⟩)
    (hNI : PySem.W.codeIn K cd_I "NoDeed.__init__" = true)
    (kNI : PySem.W.keepIn K (.ref cI) = true)
    (kNC : PySem.W.keepIn K (.ref cC) = true)
    (eNC : PySem.W.subIn K (.ref cC) (.type "BaseException") = some true)
    (eNB : PySem.W.subIn K (.ref cB) (.type "BaseException") = some true)
    (tNC : PySem.W.typeIn K (.ref cC) = some (.type "type"))
    (tNB : PySem.W.typeIn K (.ref cB) = some (.type "type"))
    (hNC : PySem.W.hasDictIn K cC = true)
    (cNC : PySem.W.isClsIn K cC = true)
    (cNB : PySem.W.isClsIn K cB = true)
    (uNC : PySem.W.subIn K (.ref cC) (.ref cC) = some true)
    (uNB : PySem.W.subIn K (.ref cC) (.ref cB) = some true)
    (rNB : PySem.W.readsIn K cB (.type "type") = true)
    (fNB : PySem.W.findCls K (.ref cB) (.type "type") "__init__" = some (.val (.builtin "ValueError.__init__")))
    (aW_Lacks : PySem.W.nsIn K mainGlobals "Lacks" = some (some (.ref c_Lacks)))
    (iW_Lacks : PySem.W.isClsIn K c_Lacks = true)
    (tW_Lacks : PySem.W.typeIn K (.ref c_Lacks) = some (.type "type"))
    (uW_Lacks : PySem.W.subIn K (.ref cC) (.ref c_Lacks) = some false)
    (aW_NoBack : PySem.W.nsIn K mainGlobals "NoBack" = some (some (.ref c_NoBack)))
    (iW_NoBack : PySem.W.isClsIn K c_NoBack = true)
    (tW_NoBack : PySem.W.typeIn K (.ref c_NoBack) = some (.type "type"))
    (uW_NoBack : PySem.W.subIn K (.ref cC) (.ref c_NoBack) = some false)
    (aW_NoLine : PySem.W.nsIn K mainGlobals "NoLine" = some (some (.ref c_NoLine)))
    (iW_NoLine : PySem.W.isClsIn K c_NoLine = true)
    (tW_NoLine : PySem.W.typeIn K (.ref c_NoLine) = some (.type "type"))
    (uW_NoLine : PySem.W.subIn K (.ref cC) (.ref c_NoLine) = some false)
    (aW_NoText : PySem.W.nsIn K mainGlobals "NoText" = some (some (.ref c_NoText)))
    (iW_NoText : PySem.W.isClsIn K c_NoText = true)
    (tW_NoText : PySem.W.typeIn K (.ref c_NoText) = some (.type "type"))
    (uW_NoText : PySem.W.subIn K (.ref cC) (.ref c_NoText) = some false)
    (aW_NoWall : PySem.W.nsIn K mainGlobals "NoWall" = some (some (.ref c_NoWall)))
    (iW_NoWall : PySem.W.isClsIn K c_NoWall = true)
    (tW_NoWall : PySem.W.typeIn K (.ref c_NoWall) = some (.type "type"))
    (uW_NoWall : PySem.W.subIn K (.ref cC) (.ref c_NoWall) = some false)
    (aW_OfKind : PySem.W.nsIn K mainGlobals "OfKind" = some (some (.ref c_OfKind)))
    (iW_OfKind : PySem.W.isClsIn K c_OfKind = true)
    (tW_OfKind : PySem.W.typeIn K (.ref c_OfKind) = some (.type "type"))
    (uW_OfKind : PySem.W.subIn K (.ref cC) (.ref c_OfKind) = some false)
    (uVE : PySem.W.subIn K (.ref cC) (.type "ValueError") = some true)
    (haW : PySem.W.findIn K (.ref cC) "__class__" = some (some (.builtin "object.__class__")))
    (hnW : PySem.W.specialIn K (.builtin "object.__class__") "__get__" = some (some (.builtin "getset_descriptor.__get__")))
    (htW : PySem.W.takesIn K (.builtin "object.__class__") = some true)
    (hmW : PySem.W.mroIn K cC (.type "object") = some true)
    : ∃ fd : FuncData, (∀ (s : Shared) (v : Value), BindsTo s fd ⟨[v], []⟩ [("_law_script", v)]) ∧ ∀ base : Heap, K.In base → base.Ns mainGlobals mg → FnG l.prog w K mg base 43 fa fd ["_law_script"] (spF K m_law) := by
  have e := hfa.symm.trans (PySem.W.mg_of X G a_law)
  cases e
  have T : Txt K mg := ⟨PySem.W.mg_none_of X G z_ValueError, PySem.W.mg_none_of X G z_abs, PySem.W.mg_none_of X G z_all, PySem.W.mg_none_of X G z_bool, PySem.W.mg_none_of X G z_dict, PySem.W.mg_none_of X G z_enumerate, PySem.W.mg_none_of X G z_int, PySem.W.mg_none_of X G z_isinstance, PySem.W.mg_none_of X G z_len, PySem.W.mg_none_of X G z_list, PySem.W.mg_none_of X G z_max, PySem.W.mg_none_of X G z_min, PySem.W.mg_none_of X G z_range, PySem.W.mg_none_of X G z_set, PySem.W.mg_none_of X G z_sorted, PySem.W.mg_none_of X G z_str, PySem.W.mg_none_of X G z_tuple, PySem.W.mg_none_of X G z_zip, ⟨_, PySem.W.mg_of X G x_TIED, ktup_two y_TIED⟩, np⟩
  have F_is_whole := fun_mk (st := s_is_whole) l_is_whole h_is_whole k_is_whole
  have g_is_whole := PySem.W.mg_of X G a_is_whole
  have F_is_deed := fun_mk (st := s_is_deed) l_is_deed h_is_deed k_is_deed
  have g_is_deed := PySem.W.mg_of X G a_is_deed
  have F_drawn_tie := fun_mk (st := s_drawn_tie) l_drawn_tie h_drawn_tie k_drawn_tie
  have g_drawn_tie := PySem.W.mg_of X G a_drawn_tie
  have F_drawn_together := fun_mk (st := s_drawn_together) l_drawn_together h_drawn_together k_drawn_together
  have g_drawn_together := PySem.W.mg_of X G a_drawn_together
  have F_behind := fun_mk (st := s_behind) l_behind h_behind k_behind
  have g_behind := PySem.W.mg_of X G a_behind
  have F_played := fun_mk (st := s_played) l_played h_played k_played
  have g_played := PySem.W.mg_of X G a_played
  have F_done := fun_mk (st := s_done) l_done h_done k_done
  have g_done := PySem.W.mg_of X G a_done
  have F_l_cell := fun_mk (st := s_l_cell) l_l_cell h_l_cell k_l_cell
  have g_l_cell := PySem.W.mg_of X G a_l_cell
  have F_l_left := fun_mk (st := s_l_left) l_l_left h_l_left k_l_left
  have g_l_left := PySem.W.mg_of X G a_l_left
  have F_l_pick := fun_mk (st := s_l_pick) l_l_pick h_l_pick k_l_pick
  have g_l_pick := PySem.W.mg_of X G a_l_pick
  have F_l_web := fun_mk (st := s_l_web) l_l_web h_l_web k_l_web
  have g_l_web := PySem.W.mg_of X G a_l_web
  have F_l_all := fun_mk (st := s_l_all) l_l_all h_l_all k_l_all
  have g_l_all := PySem.W.mg_of X G a_l_all
  have F_l_spoilt := fun_mk (st := s_l_spoilt) l_l_spoilt h_l_spoilt k_l_spoilt
  have g_l_spoilt := PySem.W.mg_of X G a_l_spoilt
  have F_l_is_deed := fun_mk (st := s_l_is_deed) l_l_is_deed h_l_is_deed k_l_is_deed
  have g_l_is_deed := PySem.W.mg_of X G a_l_is_deed
  have F_l_behind := fun_mk (st := s_l_behind) l_l_behind h_l_behind k_l_behind
  have g_l_behind := PySem.W.mg_of X G a_l_behind
  have F_l_same := fun_mk (st := s_l_same) l_l_same h_l_same k_l_same
  have g_l_same := PySem.W.mg_of X G a_l_same
  have F_l_right := fun_mk (st := s_l_right) l_l_right h_l_right k_l_right
  have g_l_right := PySem.W.mg_of X G a_l_right
  have F_law := fun_mk (st := s_law) l_law h_law k_law
  have g_law := PySem.W.mg_of X G a_law
  refine ⟨PySem.W.fnOf "law" "law" (defArgs s_law) (defBody s_law) (defScope s_law) .none kV_law dc_law pm_law an_law cd_law ct_law, fun s v => .of_eq rfl, fun base _ _ => ?_⟩
  have F_I := fun_mk (st := s_init) lNI hNI kNI
  have N : NoD K mg cC cI cB := { gC := PySem.W.mg_of X G aNC, gB := PySem.W.mg_of X G aNB, T := ⟨⟨_, _, _, _, _, _, _, _, _, _, _, _, _, _, _, xNC, by first | rfl | decide +kernel⟩, sNC, eNC, tNC, kNC⟩, ga := gNC, gg := ggNC, no := nNC, iC := iNC, tI := tNI, hd := hNC, te := exm_own eNC cNC tNC uNC, tb := exm_own eNB cNB tNB uNB, rB := rNB, iB := fNB }
  have R : RzF l.prog w K mg base cC cI cB := ⟨N, _, ok_init N F_I, F_I.binds (ps := ["self", "number"]) fun _ _ _ _ _ _ us hl => match us, hl with | [_, _], _ => rfl⟩
  have NW : NoW K mg cC := ⟨⟨cNC, haW, hnW, htW, hmW⟩, T.b_isinstance, T.b_ValueError, kitOne_self, kitOne_ve uVE, _, _, _, _, _, _, PySem.W.mg_of X G aW_Lacks, PySem.W.mg_of X G aW_NoBack, PySem.W.mg_of X G aW_NoLine, PySem.W.mg_of X G aW_NoText, PySem.W.mg_of X G aW_NoWall, PySem.W.mg_of X G aW_OfKind, kitAny_six uNC iW_Lacks tW_Lacks uW_Lacks iW_NoBack tW_NoBack uW_NoBack iW_NoLine tW_NoLine uW_NoLine iW_NoText tW_NoText uW_NoText iW_NoWall tW_NoWall uW_NoWall iW_OfKind tW_OfKind uW_OfKind⟩
  have C_is_whole : Cal l.prog w K mg base 1 "is_whole" m_is_whole := c_is_whole T R NW F_is_whole g_is_whole 
  have C_is_deed : Cal l.prog w K mg base 2 "is_deed" m_is_deed := c_is_deed T R NW F_is_deed g_is_deed C_is_whole
  have C_drawn_tie : Cal l.prog w K mg base 1 "drawn_tie" m_drawn_tie := c_drawn_tie T R NW F_drawn_tie g_drawn_tie 
  have C_drawn_together : Cal l.prog w K mg base 2 "drawn_together" m_drawn_together := c_drawn_together T R NW F_drawn_together g_drawn_together C_drawn_tie
  have C_behind : Cal l.prog w K mg base 3 "behind" m_behind := c_behind T R NW F_behind g_behind C_drawn_together
  have D_played := c_played T R NW F_played g_played C_is_deed C_behind
  have C_played : Cal l.prog w K mg base 4 "played" m_played := D_played.toCal
  have D_done := c_done T R NW F_done g_done C_played D_played
  have C_done : Cal l.prog w K mg base 5 "done" m_done := D_done.toCal
  have C_l_cell : Cal l.prog w K mg base 1 "_law_cell" m_l_cell := c_l_cell T R NW F_l_cell g_l_cell 
  have C_l_left : Cal l.prog w K mg base 2 "_law_left" m_l_left := c_l_left T R NW F_l_left g_l_left C_l_cell
  have C_l_pick : Cal l.prog w K mg base 1 "_law_pick" m_l_pick := c_l_pick T R NW F_l_pick g_l_pick 
  have C_l_web : Cal l.prog w K mg base 2 "_law_web" m_l_web := c_l_web T R NW F_l_web g_l_web C_l_pick
  have C_l_all : Cal l.prog w K mg base 1 "_law_all" m_l_all := c_l_all T R NW F_l_all g_l_all 
  have C_l_spoilt : Cal l.prog w K mg base 2 "_law_spoilt" m_l_spoilt := c_l_spoilt T R NW F_l_spoilt g_l_spoilt C_l_pick
  have C_l_is_deed : Cal l.prog w K mg base 1 "_law_is_deed" m_l_is_deed := c_l_is_deed T R NW F_l_is_deed g_l_is_deed 
  have C_l_behind : Cal l.prog w K mg base 1 "_law_behind" m_l_behind := c_l_behind T R NW F_l_behind g_l_behind 
  have C_l_same : ∀ n, Cal l.prog w K mg base (1 + n) "_law_same" (m_l_same n) := c_l_same T F_l_same g_l_same 
  have C_l_right : Cal l.prog w K mg base 42 "_law_right" m_l_right := c_l_right T R NW F_l_right g_l_right C_done D_done C_l_is_deed C_l_behind C_l_same
  exact o_law T R NW F_law C_l_left C_l_pick C_l_web C_l_all C_l_spoilt C_l_right
end Z
open PySem PySem.W PyProof.Rows
set_option maxHeartbeats 0 in
theorem PySem.Challenge.cw_drawnweb_k07_done_holds : PySem.Challenge.rw_drawnweb_k07_done.Holds := by
  w_on; o_law; k_head; (case hw => w_witness2)
  k_fill
  refine MV.walkG (l := PySem.Challenge.rw_drawnweb_k07_done) (n := 63) (k := 43) (x := "_law_script") (sp := fun w => MV.spF _ Z.m_law) rfl (by decide) rfl ⟨rfl, by decide, by decide⟩ (fun w h Y => PySem.W.kIn_of Y) ?F (fun _ H a ns hl hO hS => MV.law_sp (fun ns hl => Z.law_true ns hl) H a ns hl hO hS)
  case F =>
    intro w mg fa h KX G hmg
    refine' Z.all_mk KX G hmg ?a_is_whole ?l_is_whole ?h_is_whole ?k_is_whole ?a_is_deed ?l_is_deed ?h_is_deed ?k_is_deed ?a_drawn_tie ?l_drawn_tie ?h_drawn_tie ?k_drawn_tie ?a_drawn_together ?l_drawn_together ?h_drawn_together ?k_drawn_together ?a_behind ?l_behind ?h_behind ?k_behind ?a_played ?l_played ?h_played ?k_played ?a_done ?l_done ?h_done ?k_done ?a_l_cell ?l_l_cell ?h_l_cell ?k_l_cell ?a_l_left ?l_l_left ?h_l_left ?k_l_left ?a_l_pick ?l_l_pick ?h_l_pick ?k_l_pick ?a_l_web ?l_l_web ?h_l_web ?k_l_web ?a_l_all ?l_l_all ?h_l_all ?k_l_all ?a_l_spoilt ?l_l_spoilt ?h_l_spoilt ?k_l_spoilt ?a_l_is_deed ?l_l_is_deed ?h_l_is_deed ?k_l_is_deed ?a_l_behind ?l_l_behind ?h_l_behind ?k_l_behind ?a_l_same ?l_l_same ?h_l_same ?k_l_same ?a_l_right ?l_l_right ?h_l_right ?k_l_right ?a_law ?l_law ?h_law ?k_law ?z_ValueError ?z_abs ?z_all ?z_bool ?z_dict ?z_enumerate ?z_int ?z_isinstance ?z_len ?z_list ?z_max ?z_min ?z_range ?z_set ?z_sorted ?z_str ?z_tuple ?z_zip ?x_TIED ?y_TIED ?np ?aNC ?aNB ?xNC ?sNC ?gNC ?ggNC ?nNC ?iNC ?tNI ?lNI ?hNI ?kNI ?kNC ?eNC ?eNB ?tNC ?tNB ?hNC ?cNC ?cNB ?uNC ?uNB ?rNB ?fNB ?aW_Lacks ?iW_Lacks ?tW_Lacks ?uW_Lacks ?aW_NoBack ?iW_NoBack ?tW_NoBack ?uW_NoBack ?aW_NoLine ?iW_NoLine ?tW_NoLine ?uW_NoLine ?aW_NoText ?iW_NoText ?tW_NoText ?uW_NoText ?aW_NoWall ?iW_NoWall ?tW_NoWall ?uW_NoWall ?aW_OfKind ?iW_OfKind ?tW_OfKind ?uW_OfKind ?uVE ?haW ?hnW ?htW ?hmW
    (case a_is_whole => k_is)
    (case l_is_whole => k_is)
    (case h_is_whole => k_is)
    (case k_is_whole => k_is)
    (case a_is_deed => k_is)
    (case l_is_deed => k_is)
    (case h_is_deed => k_is)
    (case k_is_deed => k_is)
    (case a_drawn_tie => k_is)
    (case l_drawn_tie => k_is)
    (case h_drawn_tie => k_is)
    (case k_drawn_tie => k_is)
    (case a_drawn_together => k_is)
    (case l_drawn_together => k_is)
    (case h_drawn_together => k_is)
    (case k_drawn_together => k_is)
    (case a_behind => k_is)
    (case l_behind => k_is)
    (case h_behind => k_is)
    (case k_behind => k_is)
    (case a_played => k_is)
    (case l_played => k_is)
    (case h_played => k_is)
    (case k_played => k_is)
    (case a_done => k_is)
    (case l_done => k_is)
    (case h_done => k_is)
    (case k_done => k_is)
    (case a_l_cell => k_is)
    (case l_l_cell => k_is)
    (case h_l_cell => k_is)
    (case k_l_cell => k_is)
    (case a_l_left => k_is)
    (case l_l_left => k_is)
    (case h_l_left => k_is)
    (case k_l_left => k_is)
    (case a_l_pick => k_is)
    (case l_l_pick => k_is)
    (case h_l_pick => k_is)
    (case k_l_pick => k_is)
    (case a_l_web => k_is)
    (case l_l_web => k_is)
    (case h_l_web => k_is)
    (case k_l_web => k_is)
    (case a_l_all => k_is)
    (case l_l_all => k_is)
    (case h_l_all => k_is)
    (case k_l_all => k_is)
    (case a_l_spoilt => k_is)
    (case l_l_spoilt => k_is)
    (case h_l_spoilt => k_is)
    (case k_l_spoilt => k_is)
    (case a_l_is_deed => k_is)
    (case l_l_is_deed => k_is)
    (case h_l_is_deed => k_is)
    (case k_l_is_deed => k_is)
    (case a_l_behind => k_is)
    (case l_l_behind => k_is)
    (case h_l_behind => k_is)
    (case k_l_behind => k_is)
    (case a_l_same => k_is)
    (case l_l_same => k_is)
    (case h_l_same => k_is)
    (case k_l_same => k_is)
    (case a_l_right => k_is)
    (case l_l_right => k_is)
    (case h_l_right => k_is)
    (case k_l_right => k_is)
    (case a_law => k_is)
    (case l_law => k_is)
    (case h_law => k_is)
    (case k_law => k_is)
    (case z_ValueError => k_is)
    (case z_abs => k_is)
    (case z_all => k_is)
    (case z_bool => k_is)
    (case z_dict => k_is)
    (case z_enumerate => k_is)
    (case z_int => k_is)
    (case z_isinstance => k_is)
    (case z_len => k_is)
    (case z_list => k_is)
    (case z_max => k_is)
    (case z_min => k_is)
    (case z_range => k_is)
    (case z_set => k_is)
    (case z_sorted => k_is)
    (case z_str => k_is)
    (case z_tuple => k_is)
    (case z_zip => k_is)
    (case x_TIED => k_is)
    (case y_TIED => k_is)
    (case np => first | rfl | decide +kernel)
    (case aNC => k_is)
    (case aNB => k_is)
    (case xNC => k_is)
    (case sNC => k_is)
    (case gNC => k_is)
    (case ggNC => k_is)
    (case nNC => k_is)
    (case iNC => k_is)
    (case tNI => k_is)
    (case lNI => k_is)
    (case hNI => k_is)
    (case kNI => k_is)
    (case kNC => k_is)
    (case eNC => k_is)
    (case eNB => k_is)
    (case tNC => k_is)
    (case tNB => k_is)
    (case hNC => k_is)
    (case cNC => k_is)
    (case cNB => k_is)
    (case uNC => first | k_is | rfl | decide +kernel)
    (case uNB => first | k_is | rfl | decide +kernel)
    (case rNB => first | k_is | rfl | decide +kernel)
    (case fNB => first | k_is | rfl | decide +kernel)
    (case aW_Lacks => k_is)
    (case iW_Lacks => k_is)
    (case tW_Lacks => k_is)
    (case uW_Lacks => first | k_is | rfl | decide +kernel)
    (case aW_NoBack => k_is)
    (case iW_NoBack => k_is)
    (case tW_NoBack => k_is)
    (case uW_NoBack => first | k_is | rfl | decide +kernel)
    (case aW_NoLine => k_is)
    (case iW_NoLine => k_is)
    (case tW_NoLine => k_is)
    (case uW_NoLine => first | k_is | rfl | decide +kernel)
    (case aW_NoText => k_is)
    (case iW_NoText => k_is)
    (case tW_NoText => k_is)
    (case uW_NoText => first | k_is | rfl | decide +kernel)
    (case aW_NoWall => k_is)
    (case iW_NoWall => k_is)
    (case tW_NoWall => k_is)
    (case uW_NoWall => first | k_is | rfl | decide +kernel)
    (case aW_OfKind => k_is)
    (case iW_OfKind => k_is)
    (case tW_OfKind => k_is)
    (case uW_OfKind => first | k_is | rfl | decide +kernel)
    (case uVE => first | k_is | rfl | decide +kernel)
    (case haW => k_is)
    (case hnW => k_is)
    (case htW => k_is)
    (case hmW => k_is)
