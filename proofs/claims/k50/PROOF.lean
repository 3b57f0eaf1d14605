import PyProof.Rows.All
import Wide.All
import OpenK.AllK
import Wide.FinOn
import HandS.ForMost
import HandS.Wide
import HandS.Deep
import HandS.Walk
import HandS.Zip
import HandS.TupAny
import HandS.Flow
import HandS.IsInst
import PyProof.Rows.RuleB_pow
import KE.DataCmp
import HandS.Conv
import HandS.SortInts
import HandS.More
import KE.SortData
import KE.DataMinMax
import HandS.Sort
import PyProof.TupleOfSeq
import HandS.Remove
import HandS.SetFor
import HandS.Style
import HandS.RaiseMore
import PyProof.ReprRoads
import HandS.Zip0
import KE.KDictZip
import HandS.TupSets
import KE.DataFind
import KE.KDictList
import KE.KDictSum
import KE.KDictPairs
import KE.GoesMore
import KE.KRevSl
import HandS.Strs
import HandS.List
import HandS.SortKw
import PyProof.Rows.StrInSeq3
import KE.KDictKeyed
import HandS.TryOnly
import HandS.Iter
import KE.KEqDict
import PySem.Challenge.RW_drawnweb_k50_counts_and_kinds_bar
set_option Elab.async false
set_option linter.all false
set_option maxRecDepth 100000
/-! Mirror values: what a value, a container, a frame stand for, and the readings that a mirror gives. -/
namespace MV
open PySem PySem.Spec PyProof.Rows L2
abbrev Frg := PySem.W.Frag

/-! ### the mirror's world -/
/-- an item of a cell that may hold cells: a datum, or the n-th cell -/
inductive Itm where
  | d (x : PyData)
  | c (n : Nat)
inductive Cell where
  | lst (xs : List PyData)
  | dic (kvs : List (PyData × PyData))
  /-- a dict, a list, an instance of the class named nm, of which an item may be a cell that was made ahead of it -/
  | rcd (kvs : List (Key × Itm))
  | nls (xs : List Itm)
  | ins (nm : Str) (fs : List (Str × Itm))
  /-- a dict whose keys are pairs of numbers -/
  | dtp (kvs : List ((Int × Int) × PyData))
inductive Val where
  /-- a datum -/
  | d (x : PyData)
  /-- the n-th cell of the store -/
  | c (n : Nat)
  /-- a container just made, not yet in the store -/
  | f (k : Cell)
  /-- a list that stands locked (the script) -/
  | z (xs : List PyData)
  /-- cells just made, not yet in the store: the i-th of them -/
  | g (cs : List Cell) (i : Nat)
  /-- a thing of which nothing is told -/
  | x
structure Exn where
  name : Str
  fs : List (Str × PyData)
abbrev Sto := List Cell
abbrev Envi := List (Option Val)
inductive Res (α : Type) where
  | ok (a : α) (S : Sto)
  | exc (e : Exn) (S : Sto)
  | no
def Cell.data : Cell → PyData
  | .lst xs => .list xs
  | .dic kvs => .dict kvs
  | _ => .none
def Val.th : Val → Val
  | .f (.lst xs) => .d (.list xs)
  | .f (.dic kvs) => .d (.dict kvs)
  | .f _ => .x
  | .g _ _ => .x
  | v => v
def Itm.lt (n : Nat) : Itm → Bool
  | .d _ => true
  | .c k => decide (k < n)
/-- the cells that a cell holds stand ahead of n -/
def Cell.lt (n : Nat) : Cell → Bool
  | .rcd kvs => kvs.all fun p => p.2.lt n
  | .nls xs => xs.all (Itm.lt n)
  | .ins _ fs => fs.all fun p => p.2.lt n
  | _ => true
def Res.bind {α β : Type} (r : Res α) (g : α → Sto → Res β) : Res β := match r with
  | .ok a S => g a S
  | .exc e S => .exc e S
  | .no => .no

/-! ### what stands for what -/
def KTup (K : Frg) (a : Addr) (xs : List V) : Prop := SqT K (fun _ => none) a xs
def LstAt (A : List Addr) (H : Hp) (a : Addr) (xs : List V) : Prop := H a = some (.lst xs) ∧ a ∉ A
def TupH (H : Hp) (a : Addr) (xs : List V) : Prop := H a = some (.tup xs) ∨ False
def TupAt (K : Frg) (A : List Addr) (H : Hp) (a : Addr) (xs : List V) : Prop := (TupH H a xs ∧ a ∉ A) ∨ KTup K a xs
def kD : Key → PyData
  | .inl i => .int i
  | .inr x => .str x
mutual
inductive Rp (K : Frg) (A : List Addr) (H : Hp) : V → PyData → Prop
  | non : Rp K A H .non .none
  | bl (b : Bool) : Rp K A H (.bl b) (.bool b)
  | int (i : Int) : Rp K A H (.int i) (.int i)
  | str (x : Str) : Rp K A H (.str x) (.str x)
  | lst {a : Addr} {xs : List V} {ds : List PyData} : LstAt A H a xs → RpL K A H xs ds → Rp K A H (.ref a) (.list ds)
  | tup {a : Addr} {xs : List V} {ds : List PyData} : TupAt K A H a xs → RpL K A H xs ds → Rp K A H (.ref a) (.tuple ds)
  | dic {a : Addr} {kvs : List (Key × V)} {ps : List (PyData × PyData)} : Rd H a (.dK kvs) → a ∉ A → RpD K A H kvs ps → Rp K A H (.ref a) (.dict ps)
inductive RpL (K : Frg) (A : List Addr) (H : Hp) : List V → List PyData → Prop
  | nil : RpL K A H [] []
  | cons {v : V} {vs : List V} {d : PyData} {ds : List PyData} : Rp K A H v d → RpL K A H vs ds → RpL K A H (v :: vs) (d :: ds)
inductive RpD (K : Frg) (A : List Addr) (H : Hp) : List (Key × V) → List (PyData × PyData) → Prop
  | nil : RpD K A H [] []
  | cons {k : Key} {v : V} {kvs : List (Key × V)} {d : PyData} {ps : List (PyData × PyData)} : Rp K A H v d → RpD K A H kvs ps → RpD K A H ((k, v) :: kvs) ((kD k, d) :: ps)
end

abbrev upd1 := @L2.upd
/-- a thing stays as it is, but a dict may be locked for good -/
def Fz (o o' : HO) : Prop := o' = o ∨ ∃ ob kvs, o = .dK kvs ∧ o' = .frz ob (.dK kvs)
theorem Fz.trans {o o1 o2 : HO} (h : Fz o o1) (g : Fz o1 o2) : Fz o o2 := by
  rcases h with rfl | ⟨ob, kvs, rfl, rfl⟩
  · exact g
  · rcases g with rfl | ⟨ob2, kvs2, e, rfl⟩
    · exact .inr ⟨ob, kvs, rfl, rfl⟩
    · cases e
/-- what was read off A stays, and stands off A' -/
def Kp (A : List Addr) (H : Hp) (A' : List Addr) (H' : Hp) : Prop := ∀ b o, H b = some o → b ∉ A → (∃ o', H' b = some o' ∧ Fz o o') ∧ b ∉ A'
theorem kp_same {A A' : List Addr} {H H' : Hp} (h : ∀ b o, H b = some o → b ∉ A → H' b = some o ∧ b ∉ A') : Kp A H A' H' := fun b o e n => ⟨⟨o, (h b o e n).1, .inl rfl⟩, (h b o e n).2⟩
section
variable {K : Frg} {A A' A2 : List Addr} {H H' H2 : Hp} {a : Addr} {xs : List V}
theorem Kp.rd {u : HO} (k : Kp A H A' H') (r : Rd H a u) (n : a ∉ A) : Rd H' a u ∧ a ∉ A' := by
  rcases r with r | ⟨o, r⟩
  · obtain ⟨⟨o', h, f⟩, m⟩ := k _ _ r n
    rcases f with rfl | ⟨ob, kvs, rfl, rfl⟩
    · exact ⟨.inl h, m⟩
    · exact ⟨.inr ⟨_, h⟩, m⟩
  · obtain ⟨⟨o', h, f⟩, m⟩ := k _ _ r n
    rcases f with rfl | ⟨ob, kvs, e, rfl⟩
    · exact ⟨.inr ⟨_, h⟩, m⟩
    · cases e
theorem Kp.lst (k : Kp A H A' H') (r : H a = some (.lst xs)) (n : a ∉ A) : H' a = some (.lst xs) ∧ a ∉ A' := by
  obtain ⟨⟨o', h, f⟩, m⟩ := k _ _ r n
  rcases f with rfl | ⟨ob, kvs, e, rfl⟩
  · exact ⟨h, m⟩
  · cases e
theorem Kp.tup (k : Kp A H A' H') (r : H a = some (.tup xs)) (n : a ∉ A) : H' a = some (.tup xs) ∧ a ∉ A' := by
  obtain ⟨⟨o', h, f⟩, m⟩ := k _ _ r n
  rcases f with rfl | ⟨ob, kvs, e, rfl⟩
  · exact ⟨h, m⟩
  · cases e
theorem LstAt.mono (k : Kp A H A' H') (h : LstAt A H a xs) : LstAt A' H' a xs := k.lst h.1 h.2
theorem TupAt.mono (k : Kp A H A' H') (h : TupAt K A H a xs) : TupAt K A' H' a xs := by
  rcases h with ⟨r | r, n⟩ | h
  · exact .inl ⟨.inl (k.tup r n).1, (k.tup r n).2⟩
  · exact r.elim
  · exact .inr h
mutual
theorem Rp.mono (k : Kp A H A' H') : ∀ {v : V} {d : PyData}, Rp K A H v d → Rp K A' H' v d
  | _, _, .non => .non
  | _, _, .bl b => .bl b
  | _, _, .int i => .int i
  | _, _, .str x => .str x
  | _, _, .lst h t => .lst (h.mono k) (RpL.mono k t)
  | _, _, .tup h t => .tup (h.mono k) (RpL.mono k t)
  | _, _, .dic h n t => .dic (k.rd h n).1 (k.rd h n).2 (RpD.mono k t)
theorem RpL.mono (k : Kp A H A' H') : ∀ {v : List V} {d : List PyData}, RpL K A H v d → RpL K A' H' v d
  | _, _, .nil => .nil
  | _, _, .cons h t => .cons (Rp.mono k h) (RpL.mono k t)
theorem RpD.mono (k : Kp A H A' H') : ∀ {v : List (Key × V)} {d : List (PyData × PyData)}, RpD K A H v d → RpD K A' H' v d
  | _, _, .nil => .nil
  | _, _, .cons h t => .cons (Rp.mono k h) (RpD.mono k t)
end
theorem ktup_seq (h : KTup K a xs) : SqT K H a xs := by
  rcases h with (h | ⟨o, h⟩) | h
  · cases h
  · cases h
  · exact .inr h
theorem klst_seq (h : SqL K (fun _ => none) a xs) : SqL K H a xs := by
  rcases h with (h | ⟨o, h⟩) | h
  · cases h
  · cases h
  · exact .inr h
theorem LstAt.seq (h : LstAt A H a xs) : SqL K H a xs := .inl (.inl h.1)
theorem TupAt.seq (h : TupAt K A H a xs) : SqT K H a xs := by
  rcases h with ⟨h | h, _⟩ | h
  · exact .inl (.inl h)
  · exact h.elim
  · exact ktup_seq h
end
section
variable {K : Frg} {A : List Addr} {H : Hp}
theorem RpL.length : ∀ {xs : List V} {ds : List PyData}, RpL K A H xs ds → xs.length = ds.length
  | _, _, .nil => rfl
  | _, _, .cons _ t => by rw [List.length_cons, List.length_cons, RpL.length t]
theorem RpL.get : ∀ {xs : List V} {ds : List PyData} {i : Nat} {d : PyData}, RpL K A H xs ds → ds[i]? = some d → ∃ v, xs[i]? = some v ∧ Rp K A H v d
  | _, _, i, d, .nil, h => by simp at h
  | _, _, 0, d, .cons r _, h => by simp at h; subst h; exact ⟨_, rfl, r⟩
  | _, _, i + 1, d, .cons _ t, h => RpL.get (i := i) t (by simpa using h)
theorem RpL.getV : ∀ {xs : List V} {ds : List PyData} {i : Nat} {v : V}, RpL K A H xs ds → xs[i]? = some v → ∃ d, ds[i]? = some d ∧ Rp K A H v d
  | _, _, i, d, .nil, h => by simp at h
  | _, _, 0, d, .cons r _, h => by simp at h; subst h; exact ⟨_, rfl, r⟩
  | _, _, i + 1, d, .cons _ t, h => RpL.getV (i := i) t (by simpa using h)
theorem RpL.append : ∀ {xs ys : List V} {ds es : List PyData}, RpL K A H xs ds → RpL K A H ys es → RpL K A H (xs ++ ys) (ds ++ es)
  | _, _, _, _, .nil, t => t
  | _, _, _, _, .cons r s, t => .cons r (RpL.append s t)
theorem RpL.take : ∀ {xs : List V} {ds : List PyData} (n : Nat), RpL K A H xs ds → RpL K A H (xs.take n) (ds.take n)
  | _, _, 0, _ => by simp; exact .nil
  | _, _, _ + 1, .nil => by simp; exact .nil
  | _, _, n + 1, .cons r t => .cons r (RpL.take n t)
theorem RpL.drop : ∀ {xs : List V} {ds : List PyData} (n : Nat), RpL K A H xs ds → RpL K A H (xs.drop n) (ds.drop n)
  | _, _, 0, h => h
  | _, _, _ + 1, .nil => by simp; exact .nil
  | _, _, n + 1, .cons _ t => RpL.drop n t
theorem RpL.set {v : V} {d : PyData} (r : Rp K A H v d) : ∀ {xs : List V} {ds : List PyData} (n : Nat), RpL K A H xs ds → RpL K A H (xs.set n v) (ds.set n d)
  | _, _, _, .nil => .nil
  | _, _, 0, .cons _ t => .cons r t
  | _, _, n + 1, .cons q t => .cons q (RpL.set r n t)
theorem RpL.eraseIdx : ∀ {xs : List V} {ds : List PyData} (n : Nat), RpL K A H xs ds → RpL K A H (xs.eraseIdx n) (ds.eraseIdx n)
  | _, _, _, .nil => .nil
  | _, _, 0, .cons _ t => t
  | _, _, n + 1, .cons q t => .cons q (RpL.eraseIdx n t)
theorem RpL.reverse {xs : List V} {ds : List PyData} (h : RpL K A H xs ds) : RpL K A H xs.reverse ds.reverse := by
  induction xs generalizing ds with
  | nil => cases h; exact .nil
  | cons x xs ih => cases h with | cons r t => rw [List.reverse_cons, List.reverse_cons]; exact (ih t).append (.cons r .nil)
theorem RpL.dropLast {xs : List V} {ds : List PyData} (h : RpL K A H xs ds) : RpL K A H xs.dropLast ds.dropLast := by
  rw [List.dropLast_eq_take, List.dropLast_eq_take, h.length]; exact h.take _
theorem RpL.ints : ∀ {xs : List V} {ns : List Int}, RpL K A H xs (ns.map PyData.int) → xs = ns.map V.int
  | _, [], h => by cases h; rfl
  | _, n :: ns, h => by
    have h' : RpL K A H _ (PyData.int n :: ns.map PyData.int) := h
    cases h' with | cons r t => cases r; rw [List.map_cons, RpL.ints t]
theorem RpL.bls : ∀ {xs : List V} {ns : List Bool}, RpL K A H xs (ns.map PyData.bool) → xs = ns.map V.bl
  | _, [], h => by cases h; rfl
  | _, n :: ns, h => by
    have h' : RpL K A H _ (PyData.bool n :: ns.map PyData.bool) := h
    cases h' with | cons r t => cases r; rw [List.map_cons, RpL.bls t]
theorem RpL.of_ints : ∀ (ns : List Int), RpL K A H (ns.map V.int) (ns.map PyData.int)
  | [] => .nil
  | n :: ns => .cons (.int n) (RpL.of_ints ns)
mutual
theorem Rp.dp : ∀ (d : PyData) (v : V), d.canLay0 = true → Rp K A H v d → Dp K H v d
  | .none, _, _, h => by cases h; exact .non
  | .bool b, _, _, h => by cases h; exact .bl b
  | .int i, _, _, h => by cases h; exact .int i
  | .str x, _, _, h => by cases h; exact .str x
  | .list ds, _, c, h => by
    cases h with | lst l t => exact .lst l.seq (RpL.dp ds _ (by simpa [PyData.canLay0] using c) t)
  | .tuple ds, _, c, h => by
    cases h with | tup l t => exact .tup l.seq (RpL.dp ds _ (by simpa [PyData.canLay0] using c) t)
  | .dict _, _, c, _ => by simp [PyData.canLay0] at c
theorem RpL.dp : ∀ (ds : List PyData) (vs : List V), PyData.canLayAll0 ds = true → RpL K A H vs ds → DpAll K H vs ds
  | [], _, _, h => by cases h; exact .nil
  | d :: ds, _, c, h => by
    have c' : d.canLay0 = true ∧ PyData.canLayAll0 ds = true := by simpa [PyData.canLayAll0] using c
    cases h with | cons r t => exact .cons (Rp.dp d _ c'.1 r) (RpL.dp ds _ c'.2 t)
end
end

/-! ### the store -/
/-- the cells' addresses; those of lists that a comprehension is making -/
structure Wd where
  A : List Addr
  P : List Addr
def Wd.V (W : Wd) : List Addr := W.P ++ W.A
def Wd.push (W : Wd) (a : Addr) : Wd := ⟨W.A ++ [a], W.P⟩
def Wd.prot (W : Wd) (a : Addr) : Wd := ⟨W.A, a :: W.P⟩
def Wd.pushs (W : Wd) (as : List Addr) : Wd := ⟨W.A ++ as, W.P⟩
def ItmOk (K : Frg) (W : Wd) (H : Hp) (v : V) : Itm → Prop
  | .d x => Rp K W.V H v x
  | .c n => ∃ a, W.A[n]? = some a ∧ v = .ref a
def CellOk (K : Frg) (W : Wd) (H : Hp) (a : Addr) : Cell → Prop
  | .lst ds => ∃ xs, H a = some (.lst xs) ∧ RpL K W.V H xs ds
  | .dic ps => ∃ kvs, H a = some (.dK kvs) ∧ RpD K W.V H kvs ps
  | .rcd ps => ∃ kvs : List (Key × V), H a = some (.dK kvs) ∧ Paired (fun p q => p.1 = q.1 ∧ ItmOk K W H p.2 q.2) kvs ps
  | .nls ds => ∃ xs, H a = some (.lst xs) ∧ Paired (ItmOk K W H) xs ds
  | .ins nm ps => ∃ C dx fs, PySem.W.nsIn K mainGlobals nm = some (some (.ref C)) ∧ H a = some (.ins C dx fs) ∧ Paired (fun p q => p.1 = q.1 ∧ ItmOk K W H p.2 q.2) fs ps
  | .dtp ps => ∃ kvs : List (List Key × V), H a = some (.dT kvs) ∧ Paired (fun p q => p.1 = [.inl q.1.1, .inl q.1.2] ∧ Rp K W.V H p.2 q.2) kvs ps
structure Wf (K : Frg) (W : Wd) (S : Sto) (H : Hp) : Prop where
  len : W.A.length = S.length
  nd : W.A.Nodup
  lt : ∀ (n : Nat) (k : Cell), S[n]? = some k → k.lt n = true
  ok : ∀ (n : Nat) (a : Addr) (k : Cell), W.A[n]? = some a → S[n]? = some k → CellOk K W H a k
  pr : ∀ p ∈ W.P, p ∉ W.A ∧ ∃ o, H p = some o ∧ Mut (some o)
def Rv (K : Frg) (W : Wd) (H : Hp) (v : V) : Val → Prop
  | .d x => Rp K W.V H v x
  | .c n => ∃ a, W.A[n]? = some a ∧ v = .ref a
  | .f _ => False
  | .g _ _ => False
  | .x => ∃ a, v = .ref a
  | .z ds => ∃ a xs, v = .ref a ∧ ((Rd H a (.lst xs) ∧ a ∉ W.V) ∨ SqL K (fun _ => none) a xs) ∧ RpL K W.V H xs ds
structure REnv (K : Frg) (W : Wd) (H : Hp) (ρ : Envi) (σ : L2.St) : Prop where
  len : σ.length = ρ.length
  get : ∀ (i : Nat) (v : Val), ρ[i]? = some (some v) → ∃ x, σ[i]? = some (some x) ∧ Rv K W H x v
structure Ext (W : Wd) (H : Hp) (W' : Wd) (H' : Hp) : Prop where
  pr : W'.P = W.P
  pre : ∃ B, W'.A = W.A ++ B
  new : ∀ a ∈ W'.A, a ∈ W.A ∨ H a = none
  keep : ∀ b o, H b = some o → b ∉ W.A → ∃ o', H' b = some o' ∧ Fz o o' ∧ (b ∈ W.P → o' = o)
section
variable {K : Frg} {W W' W2 : Wd} {H H' H2 : Hp} {a : Addr} {S S' : Sto} {ρ : Envi} {σ : L2.St}
theorem Wd.mem {b : Addr} : b ∈ W.V ↔ b ∈ W.P ∨ b ∈ W.A := List.mem_append
theorem ext_same {W : Wd} {H H' : Hp} (h : ∀ b o, H b = some o → b ∉ W.A → H' b = some o) : ∀ b o, H b = some o → b ∉ W.A → ∃ o', H' b = some o' ∧ Fz o o' ∧ (b ∈ W.P → o' = o) := fun b o e n => ⟨o, h b o e n, .inl rfl, fun _ => rfl⟩
theorem Ext.keepL (e : Ext W H W' H') {b : Addr} {xs : List V} (h : H b = some (.lst xs)) (n : b ∉ W.A) : H' b = some (.lst xs) := by
  obtain ⟨o', h1, f, _⟩ := e.keep b _ h n
  rcases f with rfl | ⟨ob, kvs, q, rfl⟩
  · exact h1
  · cases q
theorem Ext.keepP (e : Ext W H W' H') {b : Addr} {o : HO} (h : H b = some o) (n : b ∉ W.A) (m : b ∈ W.P) : H' b = some o := by
  obtain ⟨o', h1, f, q⟩ := e.keep b _ h n
  rw [q m] at h1
  exact h1
theorem Ext.there (e : Ext W H W' H') {b : Addr} {o : HO} (h : H b = some o) (n : b ∉ W.A) : ∃ o', H' b = some o' := by
  obtain ⟨o', h1, _⟩ := e.keep b _ h n
  exact ⟨o', h1⟩
theorem Ext.kp (e : Ext W H W' H') : Kp W.V H W'.V H' := fun b o h n => by
  rw [Wd.mem, not_or] at n
  obtain ⟨o', h1, f, _⟩ := e.keep b o h n.2
  refine ⟨⟨o', h1, f⟩, fun m => ?_⟩
  rcases Wd.mem.mp m with q | q
  · rw [e.pr] at q; exact n.1 q
  · rcases e.new b q with q | q
    · exact n.2 q
    · rw [h] at q; cases q
theorem Ext.refl : Ext W H W H := ⟨rfl, ⟨[], by simp⟩, fun _ h => .inl h, ext_same fun _ _ h _ => h⟩
theorem Ext.offA (e : Ext W H W' H') {b : Addr} {o : HO} (h : H b = some o) (n : b ∉ W.A) : b ∉ W'.A := fun q => by
  rcases e.new b q with q | q
  · exact n q
  · rw [h] at q; cases q
theorem Ext.trans (e : Ext W H W' H') (f : Ext W' H' W2 H2) : Ext W H W2 H2 := by
  refine ⟨f.pr.trans e.pr, ?_, fun a h => ?_, fun b o h n => (by
    obtain ⟨o1, h1, f1, p1⟩ := e.keep b o h n
    obtain ⟨o2, h2, f2, p2⟩ := f.keep b o1 h1 (e.offA h n)
    exact ⟨o2, h2, f1.trans f2, fun m => (p2 (by rw [e.pr]; exact m)).trans (p1 m)⟩)⟩
  · obtain ⟨B, h1⟩ := e.pre
    obtain ⟨C, h2⟩ := f.pre
    exact ⟨B ++ C, by rw [h2, h1, List.append_assoc]⟩
  · rcases f.new a h with q | q
    · exact e.new a q
    · cases r : H a with
      | none => exact .inr rfl
      | some o =>
        by_cases m : a ∈ W.A
        · exact .inl m
        · obtain ⟨o', h1⟩ := e.there r m
          rw [h1] at q; cases q
theorem Ext.at_ (e : Ext W H W' H') {n : Nat} (h : W.A[n]? = some a) : W'.A[n]? = some a := by
  obtain ⟨B, e1⟩ := e.pre
  rw [e1, List.getElem?_append_left (List.getElem?_eq_some_iff.mp h).1]; exact h
theorem Rv.mono {v : V} {x : Val} (e : Ext W H W' H') (r : Rv K W H v x) : Rv K W' H' v x := by
  cases x with
  | d x => exact Rp.mono e.kp r
  | c n => obtain ⟨a, h, rfl⟩ := r; exact ⟨a, e.at_ h, rfl⟩
  | f k => exact r
  | g cs i => exact r
  | x => exact r
  | z ds => obtain ⟨a, xs, rfl, h, t⟩ := r; exact ⟨a, xs, rfl, h.imp (fun q => e.kp.rd q.1 q.2) id, t.mono e.kp⟩
theorem REnv.mono (e : Ext W H W' H') (r : REnv K W H ρ σ) : REnv K W' H' ρ σ := ⟨r.len, fun i v h => by
  obtain ⟨x, h1, h2⟩ := r.get i v h
  exact ⟨x, h1, h2.mono e⟩⟩
theorem Wf.there (w : Wf K W S H) (h : a ∈ W.V) : ∃ o, H a = some o ∧ Mut (some o) := by
  rcases Wd.mem.mp h with h | h
  · obtain ⟨_, xs, q, mt⟩ := w.pr a h
    exact ⟨_, q, mt⟩
  obtain ⟨n, hn, e⟩ := List.mem_iff_getElem.mp h
  have hs : n < S.length := by rw [← w.len]; exact hn
  have q := w.ok n a S[n] (by rw [List.getElem?_eq_getElem hn, e]) (List.getElem?_eq_getElem hs)
  cases hk : S[n] with
  | lst ds => rw [hk] at q; obtain ⟨xs, h, _⟩ := q; exact ⟨_, h, trivial⟩
  | dic ds => rw [hk] at q; obtain ⟨xs, h, _⟩ := q; exact ⟨_, h, trivial⟩
  | rcd ds => rw [hk] at q; obtain ⟨xs, h, _⟩ := q; exact ⟨_, h, trivial⟩
  | nls ds => rw [hk] at q; obtain ⟨xs, h, _⟩ := q; exact ⟨_, h, trivial⟩
  | ins C ds => rw [hk] at q; obtain ⟨C', dx, fs, _, h, _⟩ := q; exact ⟨_, h, trivial⟩
  | dtp ds => rw [hk] at q; obtain ⟨xs, h, _⟩ := q; exact ⟨_, h, trivial⟩
theorem Wf.off (w : Wf K W S H) (h : H a = none) : a ∉ W.V := fun m => by
  obtain ⟨o, q, _⟩ := w.there m
  rw [h] at q; cases q
theorem Wf.offA (w : Wf K W S H) (h : H a = none) : a ∉ W.A := fun m => w.off h (Wd.mem.mpr (.inr m))
theorem Ext.free (e : Ext W H W' H') (w : Wf K W' S' H') (h : H' a = none) : H a = none := by
  cases q : H a with
  | none => rfl
  | some o =>
    exfalso
    by_cases m : a ∈ W.A
    · obtain ⟨B, e1⟩ := e.pre
      exact w.offA h (by rw [e1]; exact List.mem_append_left _ m)
    · obtain ⟨o', h1⟩ := e.there q m
      rw [h1] at h; cases h
/-- a new thing is laid -/
theorem Ext.laid {o : HO} (h : H a = none) : Ext W H W (upd H a o) := ⟨rfl, ⟨[], by simp⟩, fun _ h => .inl h, ext_same fun b u e _ => by rw [upd_ne (ne_of_none e h)]; exact e⟩
theorem ItmOk.mono {m : Nat} {v : V} {i : Itm} (e : Kp W.V H W'.V H') (hl : i.lt m = true) (hi : ∀ j b, j < m → W.A[j]? = some b → W'.A[j]? = some b) (r : ItmOk K W H v i) : ItmOk K W' H' v i := by
  cases i with
  | d x => exact Rp.mono e r
  | c n => obtain ⟨a, h, rfl⟩ := r; exact ⟨a, hi n a (of_decide_eq_true hl) h, rfl⟩
theorem paired_all {α β : Type} {R R' : α → β → Prop} {p : β → Bool} (h : ∀ x y, p y = true → R x y → R' x y) : ∀ {xs : List α} {ys : List β}, ys.all p = true → Paired R xs ys → Paired R' xs ys
  | _, _, _, .nil => .nil
  | _, y :: ys, q, .cons r t => by
    rw [List.all_cons, Bool.and_eq_true] at q
    exact .cons (h _ _ q.1 r) (paired_all h q.2 t)
theorem CellOk.mono {k : Cell} {m : Nat} (e : Kp W.V H W'.V H') (hk : ∀ o, H a = some o → H' a = some o) (c : CellOk K W H a k) (hl : k.lt m = true) (hi : ∀ j b, j < m → W.A[j]? = some b → W'.A[j]? = some b) : CellOk K W' H' a k := by
  cases k with
  | lst ds => obtain ⟨xs, h, r⟩ := c; exact ⟨xs, hk _ h, r.mono e⟩
  | dic ds => obtain ⟨xs, h, r⟩ := c; exact ⟨xs, hk _ h, r.mono e⟩
  | rcd ds => obtain ⟨xs, h, r⟩ := c; exact ⟨xs, hk _ h, paired_all (p := fun q : Key × Itm => q.2.lt m) (fun _ _ q r => ⟨r.1, r.2.mono e q hi⟩) hl r⟩
  | nls ds => obtain ⟨xs, h, r⟩ := c; exact ⟨xs, hk _ h, paired_all (fun _ _ q r => r.mono e q hi) hl r⟩
  | ins C ds => obtain ⟨C', dx, xs, g, h, r⟩ := c; exact ⟨C', dx, xs, g, hk _ h, paired_all (p := fun q : Str × Itm => q.2.lt m) (fun _ _ q r => ⟨r.1, r.2.mono e q hi⟩) hl r⟩
  | dtp ds => obtain ⟨xs, h, r⟩ := c; exact ⟨xs, hk _ h, Paired.mapP r fun _ _ z => ⟨z.1, z.2.mono e⟩⟩
theorem Wf.laid (w : Wf K W S H) {o : HO} (h : H a = none) : Wf K W S (upd H a o) := ⟨w.len, w.nd, w.lt, fun n b k h1 h2 =>
  (w.ok n b k h1 h2).mono (Ext.laid h).kp (fun u e => by rw [upd_ne (ne_of_none e h)]; exact e) (w.lt n k h2) (fun _ _ _ h => h), fun p hp => by
    obtain ⟨q, xs, e, mt⟩ := w.pr p hp
    exact ⟨q, xs, by rw [upd_ne (ne_of_none e h)]; exact e, mt⟩⟩
theorem kp_less (h : ∀ b, b ∈ W'.V → b ∈ W.V) : Kp W.V H W'.V H := kp_same fun b _ q n => ⟨q, fun m => n (h b m)⟩
theorem push_V {b : Addr} : b ∈ (W.push a).V ↔ b ∈ W.V ∨ b = a := by
  rw [Wd.mem, Wd.mem]
  show b ∈ W.P ∨ b ∈ W.A ++ [a] ↔ _
  rw [List.mem_append, List.mem_singleton, or_assoc]
theorem prot_V {b : Addr} : b ∈ (W.prot a).V ↔ b ∈ W.V ∨ b = a := by
  rw [Wd.mem, Wd.mem]
  show b ∈ a :: W.P ∨ b ∈ W.A ↔ _
  rw [List.mem_cons]
  constructor
  · rintro ((h | h) | h)
    · exact .inr h
    · exact .inl (.inl h)
    · exact .inl (.inr h)
  · rintro ((h | h) | h)
    · exact .inl (.inr h)
    · exact .inr h
    · exact .inl (.inl h)
/-- one more cell -/
theorem Wf.drop1 {k : Cell} (w : Wf K (W.push a) (S ++ [k]) H) : Wf K W S H ∧ CellOk K W H a k ∧ a ∉ W.V := by
  have hl : W.A.length = S.length := by simpa [Wd.push] using w.len
  have ix : ∀ m, m ≤ S.length → ∀ j b, j < m → (W.push a).A[j]? = some b → W.A[j]? = some b := fun m hm j b hj h => by
    have h : (W.A ++ [a])[j]? = some b := h
    rwa [List.getElem?_append_left (by omega)] at h
  have lt1 : ∀ (n : Nat) (k' : Cell), S[n]? = some k' → (S ++ [k])[n]? = some k' := fun n k' h => by
    rw [List.getElem?_append_left (List.getElem?_eq_some_iff.mp h).1]; exact h
  have ka : Kp (W.push a).V H W.V H := kp_less fun b m => push_V.mpr (.inl m)
  have nd := w.nd
  unfold Wd.push at nd
  dsimp only at nd
  rw [List.nodup_append] at nd
  refine ⟨⟨hl, nd.1, fun n k' h => w.lt n k' (lt1 n k' h), fun n b u h1 h2 => ?_, fun p hp => ?_⟩, ?_, fun m => ?_⟩
  · have hn := (List.getElem?_eq_some_iff.mp h2).1
    refine (w.ok n b u ?_ ?_).mono ka (fun _ h => h) (w.lt n u (lt1 n u h2)) (ix n (Nat.le_of_lt hn))
    · show (W.A ++ [a])[n]? = _
      rw [List.getElem?_append_left (List.getElem?_eq_some_iff.mp h1).1]; exact h1
    · exact lt1 n u h2
  · obtain ⟨q, r⟩ := w.pr p hp
    exact ⟨fun m => q (List.mem_append_left _ m), r⟩
  · have e : (S ++ [k])[W.A.length]? = some k := by rw [hl]; simp
    exact (w.ok W.A.length a k (by simp [Wd.push]) e).mono ka (fun _ h => h) (w.lt _ k e) (ix _ (Nat.le_of_eq hl))
  · rcases Wd.mem.mp m with m | m
    · exact (w.pr a m).1 (List.mem_append_right _ (by simp))
    · exact nd.2.2 a m a (by simp) rfl
theorem Cell.th {k : Cell} (c : CellOk K W H a k) (n : a ∉ W.V) : Rv K W H (.ref a) (Val.f k).th := by
  cases k with
  | lst ds => obtain ⟨xs, h, r⟩ := c; exact Rp.lst ⟨h, n⟩ r
  | dic ds => obtain ⟨xs, h, r⟩ := c; exact Rp.dic (.inl h) n r
  | rcd ds => exact ⟨a, rfl⟩
  | nls ds => exact ⟨a, rfl⟩
  | ins C ds => exact ⟨a, rfl⟩
  | dtp ds => exact ⟨a, rfl⟩
theorem Ext.push (h : H a = none) (w : Wf K W S H) {o : HO} : Ext W H (W.push a) (upd H a o) := by
  refine ⟨rfl, ⟨[a], rfl⟩, fun b m => ?_, ext_same fun b u e _ => by rw [upd_ne (ne_of_none e h)]; exact e⟩
  rcases List.mem_append.mp m with m | m
  · exact .inl m
  · rw [List.mem_singleton.mp m]; exact .inr h
theorem Ext.grow (e : Ext W H W H') (h : H a = none) : Ext W H (W.push a) H' := by
  refine ⟨rfl, ⟨[a], rfl⟩, fun b m => ?_, e.keep⟩
  rcases List.mem_append.mp m with m | m
  · exact .inl m
  · rw [List.mem_singleton.mp m]; exact .inr h
/-- a new cell is laid -/
theorem lt_push {k : Cell} (lt : ∀ (n : Nat) (k : Cell), S[n]? = some k → k.lt n = true) (hk : k.lt S.length = true) (n : Nat) (u : Cell) (h : (S ++ [k])[n]? = some u) : u.lt n = true := by
  by_cases hn : n < S.length
  · rw [List.getElem?_append_left hn] at h; exact lt n u h
  · have e : n = S.length := by
      have := (List.getElem?_eq_some_iff.mp h).1
      simp at this
      omega
    subst e
    simp at h
    subst h
    exact hk
theorem ix_push {m : Nat} (j : Nat) (b : Addr) (h : W.A[j]? = some b) : (W.push a).A[j]? = some b := by
  show (W.A ++ [a])[j]? = some b
  rw [List.getElem?_append_left (List.getElem?_eq_some_iff.mp h).1]; exact h
theorem Wf.new {k : Cell} {o : HO} (w : Wf K W S H) (h : H a = none) (c : CellOk K (W.push a) (upd1 H a o) a k) (hk : k.lt S.length = true := by rfl) : Wf K (W.push a) (S ++ [k]) (upd1 H a o) := by
  refine ⟨by simp [Wd.push, w.len], ?_, lt_push w.lt hk, fun n b u h1 h2 => ?_, fun p hp => ?_⟩
  · show (W.A ++ [a]).Nodup
    rw [List.nodup_append]
    exact ⟨w.nd, by simp, fun x hx y hy e => by rw [List.mem_singleton.mp hy] at e; exact w.offA h (e ▸ hx)⟩
  · have h1' : (W.A ++ [a])[n]? = some b := h1
    by_cases hn : n < W.A.length
    · rw [List.getElem?_append_left hn] at h1'
      rw [List.getElem?_append_left (by rw [← w.len]; exact hn)] at h2
      refine (w.ok n b u h1' h2).mono (Ext.push h w).kp (fun v q => ?_) (w.lt n u h2) fun j b _ h => ix_push (m := n) j b h
      rw [show upd1 H a o = upd H a o from rfl, upd_ne (ne_of_none q h)]; exact q
    · have e : n = W.A.length := by
        have := (List.getElem?_eq_some_iff.mp h1').1
        simp at this
        omega
      subst e
      rw [w.len] at h2
      simp at h1' h2
      subst h1' h2
      exact c
  · obtain ⟨q, xs, e, mt⟩ := w.pr p hp
    refine ⟨fun m => ?_, xs, by rw [show upd1 H a o = upd H a o from rfl, upd_ne (ne_of_none e h)]; exact e, mt⟩
    rcases List.mem_append.mp m with m | m
    · exact q m
    · rw [List.mem_singleton.mp m, h] at e; cases e
/-- a cell is changed -/
theorem kp_upd {o : HO} (m : a ∈ W.A) : Kp W.V H W.V (upd H a o) := kp_same fun b u h n => ⟨by rw [upd_ne (fun e => n (by rw [e]; exact Wd.mem.mpr (.inr m)))]; exact h, n⟩
theorem Wf.upd {n : Nat} {o : HO} {k : Cell} (w : Wf K W S H) (h : W.A[n]? = some a) (c : CellOk K W (upd H a o) a k) (hk : k.lt n = true := by rfl) : Wf K W (S.set n k) (upd H a o) := by
  have m : a ∈ W.A := List.mem_of_getElem? h
  refine ⟨by rw [List.length_set]; exact w.len, w.nd, fun j u h2 => ?_, fun j b u h1 h2 => ?_, fun p hp => ?_⟩
  · by_cases e : j = n
    · subst e
      rw [List.getElem?_set_self (by have := (List.getElem?_eq_some_iff.mp h2).1; rwa [List.length_set] at this)] at h2
      cases h2; exact hk
    · rw [List.getElem?_set_ne (Ne.symm e)] at h2
      exact w.lt j u h2
  · by_cases e : j = n
    · subst e
      rw [h] at h1; cases h1
      rw [List.getElem?_set_self (by have := (List.getElem?_eq_some_iff.mp h).1; rw [← w.len]; exact this)] at h2
      cases h2; exact c
    · rw [List.getElem?_set_ne (Ne.symm e)] at h2
      refine (w.ok j b u h1 h2).mono (kp_upd m) (fun v q => ?_) (w.lt j u h2) fun _ _ _ h => h
      have hb : b ≠ a := fun z => by
        subst z
        exact e ((List.getElem?_inj (List.getElem?_eq_some_iff.mp h1).1 w.nd).mp (h1.trans h.symm))
      rw [upd_ne hb]; exact q
  · obtain ⟨q, xs, e, mt⟩ := w.pr p hp
    exact ⟨q, xs, by rw [upd_ne (fun z => q (by rw [z]; exact m))]; exact e, mt⟩
theorem Ext.upd {o : HO} (m : a ∈ W.A) : Ext W H W (upd H a o) := ⟨rfl, ⟨[], by simp⟩, fun _ h => .inl h, ext_same fun b u h n => by rw [upd_ne (fun z => n (by rw [z]; exact m))]; exact h⟩
/-- at a def's end: its own cells go -/
theorem Ext.less {B : List Addr} (e : Ext W H W' H') : Ext W H W H' := ⟨rfl, ⟨[], by simp⟩, fun _ h => .inl h, e.keep⟩
theorem Wf.less (w : Wf K W' S H') (e : Ext W H W' H') : Wf K W (S.take W.A.length) H' := by
  obtain ⟨B, h1⟩ := e.pre
  have ka : Kp W'.V H' W.V H' := kp_less fun b m => by
    rw [Wd.mem] at m ⊢
    rw [e.pr, h1]
    exact m.imp id fun m => List.mem_append_left _ m
  have hl : W.A.length ≤ S.length := by rw [← w.len, h1]; simp
  have nd := w.nd
  rw [h1] at nd
  have tk : ∀ (n : Nat) (u : Cell), (S.take W.A.length)[n]? = some u → n < W.A.length ∧ S[n]? = some u := fun n u h3 => by
    have hn := (List.getElem?_eq_some_iff.mp h3).1
    rw [List.length_take] at hn
    rw [List.getElem?_take_of_lt (by omega)] at h3
    exact ⟨by omega, h3⟩
  refine ⟨by rw [List.length_take]; omega, (List.nodup_append.mp nd).1, fun n u h3 => w.lt n u (tk n u h3).2, fun n b u h2 h3 => ?_, fun p hp => ?_⟩
  · obtain ⟨hn, h4⟩ := tk n u h3
    refine (w.ok n b u ?_ h4).mono ka (fun _ h => h) (w.lt n u h4) fun j c hj h => ?_
    · rw [h1, List.getElem?_append_left hn]; exact h2
    · rw [h1, List.getElem?_append_left (by omega)] at h; exact h
  · obtain ⟨q, r⟩ := w.pr p (by rw [e.pr]; exact hp)
    exact ⟨fun m => q (by rw [h1]; exact List.mem_append_left _ m), r⟩
/-- .. but one that is handed on -/
theorem Wf.pick {j : Nat} {k : Cell} (w : Wf K W' S H') (e : Ext W H W' H') (hj : W.A.length ≤ j) (h : W'.A[j]? = some a) (hk : S[j]? = some k) (hlk : k.lt W.A.length = true) : Wf K (W.push a) (S.take W.A.length ++ [k]) H' ∧ H a = none := by
  obtain ⟨B, h1⟩ := e.pre
  have hw := w.less e
  have na : a ∉ W.A := fun m => by
    obtain ⟨n, hn, q⟩ := List.mem_iff_getElem.mp m
    have z : W'.A[n]? = some a := by rw [h1, List.getElem?_append_left hn, List.getElem?_eq_getElem hn, q]
    have := (List.getElem?_inj (by rw [h1, List.length_append]; omega) w.nd).mp (z.trans h.symm)
    omega
  have ma : a ∈ W'.A := List.mem_of_getElem? h
  have ix : ∀ m, m ≤ W.A.length → ∀ j b, j < m → W'.A[j]? = some b → (W.push a).A[j]? = some b := fun m hm j b hj h => by
    rw [h1, List.getElem?_append_left (by omega)] at h
    exact ix_push (m := m) j b h
  refine ⟨⟨by simp [Wd.push, ← hw.len], ?_, lt_push hw.lt (by rw [← hw.len]; exact hlk), fun n b u h2 h3 => ?_, fun p hp => ?_⟩, ?_⟩
  · show (W.A ++ [a]).Nodup
    rw [List.nodup_append]
    exact ⟨hw.nd, by simp, fun x hx y hy e => by rw [List.mem_singleton.mp hy] at e; exact na (e ▸ hx)⟩
  · have kp : Kp W'.V H' (W.push a).V H' := kp_less fun b m => by
      rw [push_V, Wd.mem] at m
      rw [Wd.mem, e.pr, h1]
      rcases m with (m | m) | m
      · exact .inl m
      · exact .inr (List.mem_append_left _ m)
      · rw [m, ← h1]; exact .inr ma
    have h2' : (W.A ++ [a])[n]? = some b := h2
    by_cases hn : n < W.A.length
    · rw [List.getElem?_append_left hn] at h2'
      rw [List.getElem?_append_left (by rw [← hw.len]; exact hn), List.getElem?_take_of_lt hn] at h3
      exact (w.ok n b u (by rw [h1, List.getElem?_append_left hn]; exact h2') h3).mono kp (fun _ h => h) (w.lt n u h3) (ix n (Nat.le_of_lt hn))
    · have e2 : n = W.A.length := by
        have := (List.getElem?_eq_some_iff.mp h2').1
        simp at this
        omega
      subst e2
      rw [List.getElem?_append_right (by rw [← hw.len]; exact Nat.le_refl _), ← hw.len] at h3
      simp at h2' h3
      subst h2' h3
      exact (w.ok j a k h hk).mono kp (fun _ h => h) hlk (ix _ (Nat.le_refl _))
  · obtain ⟨q, r⟩ := w.pr p (by rw [e.pr]; exact hp)
    refine ⟨fun m => ?_, r⟩
    rcases List.mem_append.mp m with m | m
    · exact q (by rw [h1]; exact List.mem_append_left _ m)
    · rw [List.mem_singleton.mp m] at q; exact q ma
  · rcases e.new a ma with q | q
    · exact (na q).elim
    · exact q
end
end MV
set_option Elab.async false
set_option linter.all false
set_option maxRecDepth 100000
/-! Readings by mirrors: expressions, arguments, tests, statements. -/
namespace MV
open PySem PySem.Spec PyProof.Rows L2

/-! ### ends -/
def Post (K : Frg) (A : Wd) (H : Hp) (Q : VK) : Res Val → Prop
  | .ok (.d x) S => ∀ v H', Ext A H A H' → Wf K A S H' → Rp K A.V H' v x → Q v H'
  | .ok (.c n) S => ∀ a H', Ext A H A H' → Wf K A S H' → A.A[n]? = some a → Q (.ref a) H'
  | .ok (.f k) S => ∀ a H', Ext A H A H' → Wf K (A.push a) (S ++ [k]) H' → H a = none → Q (.ref a) H'
  | .ok (.z ds) S => ∀ v H', Ext A H A H' → Wf K A S H' → Rv K A H' v (.z ds) → Q v H'
  | .ok (.g cs i) S => ∀ as a H', Ext A H A H' → Wf K (A.pushs as) (S ++ cs) H' → (∀ b ∈ as, H b = none) → as.length = cs.length → as[i]? = some a → Q (.ref a) H'
  | .ok .x S => ∀ a H', Ext A H A H' → Wf K A S H' → Q (.ref a) H'
  | .exc _ _ => False
  | .no => False
def RvL (K : Frg) (A : Wd) (H : Hp) : List V → List Val → Prop := Paired (Rv K A H)
def PostA (K : Frg) (A : Wd) (H : Hp) (Q : List V → Hp → Prop) : Res (List Val) → Prop
  | .ok vs S => ∀ xs H', Ext A H A H' → Wf K A S H' → RvL K A H' xs vs → Q xs H'
  | .exc _ _ => False
  | .no => False
def PostB (K : Frg) (A : Wd) (H : Hp) (Q : Bool → Hp → Prop) : Res Bool → Prop
  | .ok b S => ∀ H', Ext A H A H' → Wf K A S H' → Q b H'
  | .exc _ _ => False
  | .no => False
inductive Fw where
  | nx (ρ : Envi)
  | rt (v : Val)
  | bk (ρ : Envi)
  | ct (ρ : Envi)
def PostR (K : Frg) (A : Wd) (S : Sto) (H : Hp) (Q : VK) : Val → Prop
  | .d x => ∀ A' v H', Ext A H A' H' → Wf K A' S H' → Rp K A'.V H' v x → Q v H'
  | .c n => ∀ A' a H', Ext A H A' H' → Wf K A' S H' → A'.A[n]? = some a → Q (.ref a) H'
  | .f k => ∀ A' a H', Ext A H A' H' → Wf K (A'.push a) (S ++ [k]) H' → H a = none → Q (.ref a) H'
  | .z ds => ∀ A' v H', Ext A H A' H' → Wf K A' S H' → Rv K A' H' v (.z ds) → Q v H'
  | .g cs i => ∀ A' as a H', Ext A H A' H' → Wf K (A'.pushs as) (S ++ cs) H' → (∀ b ∈ as, H b = none) → as.length = cs.length → as[i]? = some a → Q (.ref a) H'
  | .x => ∀ A' a H', Ext A H A' H' → Wf K A' S H' → Q (.ref a) H'
theorem Ext.grows {K : Frg} {W : Wd} {H H' : Hp} {as : List Addr} (e : Ext W H W H') (h : ∀ b ∈ as, H b = none) : Ext W H (W.pushs as) H' := by
  refine ⟨rfl, ⟨as, rfl⟩, fun b m => ?_, e.keep⟩
  rcases List.mem_append.mp m with m | m
  · exact .inl m
  · exact .inr (h b m)
theorem Wf.drops {K : Frg} {W : Wd} {H H' : Hp} {S cs : Sto} {as : List Addr} (w : Wf K (W.pushs as) (S ++ cs) H') (e : Ext W H W H') (h : ∀ b ∈ as, H b = none) (hl : as.length = cs.length) : Wf K W S H' := by
  have z := w.less (e.grows (K := K) h)
  have l := w.len
  have l2 : W.A.length = S.length := by
    simp [Wd.pushs] at l
    omega
  rw [l2, List.take_left' rfl] at z
  exact z
def PostS (K : Frg) (A : Wd) (H : Hp) (D : Ends) : Res Fw → Prop
  | .ok (.nx ρ) S => ∀ A' σ' H', Ext A H A' H' → Wf K A' S H' → REnv K A' H' ρ σ' → D.nx σ' H'
  | .ok (.bk ρ) S => ∀ A' σ' H', Ext A H A' H' → Wf K A' S H' → REnv K A' H' ρ σ' → D.bk σ' H'
  | .ok (.ct ρ) S => ∀ A' σ' H', Ext A H A' H' → Wf K A' S H' → REnv K A' H' ρ σ' → D.ct σ' H'
  | .ok (.rt v) S => PostR K A S H D.rt v
  | .exc _ _ => False
  | .no => False
section
variable {K : Frg} {A A' A2 : Wd} {H H' H2 : Hp} {S S' : Sto} {Q Q' : VK} {ρ : Envi} {σ : L2.St} {D : Ends}
theorem RvL.mono {xs : List V} {vs : List Val} (e : Ext A H A' H') (r : RvL K A H xs vs) : RvL K A' H' xs vs := Paired.mapP r fun _ _ h => h.mono e
/-- an end, whatever the value: its thing -/
theorem Post.th {v : Val} (h : ∀ x H', Ext A H A H' → Wf K A S H' → Rv K A H' x v.th → Q x H') : Post K A H Q (.ok v S) := by
  cases v with
  | d x => exact fun v H' e w r => h v H' e w r
  | c n => exact fun a H' e w r => h _ H' e w ⟨a, r, rfl⟩
  | f k => exact fun a H' e w r => h _ H' e w.drop1.1 (Cell.th w.drop1.2.1 w.drop1.2.2)
  | z ds => exact fun v H' e w r => h v H' e w r
  | g cs i => exact fun as a H' e w q l _ => h _ H' e (w.drops e q l) ⟨a, rfl⟩
  | x => exact fun a H' e w => h _ H' e w ⟨a, rfl⟩
theorem Post.seq {β : Type} {P : Res β → Prop} {r : Res Val} {g : Val → Sto → Res β} (h : P (r.bind g)) (h0 : P .no → False) (h1 : ∀ e S, P (.exc e S) → False)
    (k : ∀ v S1 x H1, Ext A H A H1 → Wf K A S1 H1 → Rv K A H1 x v.th → P (g v S1) → Q x H1) : Post K A H Q r := by
  cases r with
  | ok v S1 => exact Post.th fun x H1 e w r => k v S1 x H1 e w r h
  | exc e S => exact (h1 _ _ h).elim
  | no => exact (h0 h).elim
theorem PostA.seq {β : Type} {P : Res β → Prop} {Q : List V → Hp → Prop} {r : Res (List Val)} {g : List Val → Sto → Res β} (h : P (r.bind g)) (h0 : P .no → False) (h1 : ∀ e S, P (.exc e S) → False)
    (k : ∀ v S1 x H1, Ext A H A H1 → Wf K A S1 H1 → RvL K A H1 x v → P (g v S1) → Q x H1) : PostA K A H Q r := by
  cases r with
  | ok v S1 => exact fun x H1 e w r => k v S1 x H1 e w r h
  | exc e S => exact (h1 _ _ h).elim
  | no => exact (h0 h).elim
theorem PostB.seq {β : Type} {P : Res β → Prop} {Q : Bool → Hp → Prop} {r : Res Bool} {g : Bool → Sto → Res β} (h : P (r.bind g)) (h0 : P .no → False) (h1 : ∀ e S, P (.exc e S) → False)
    (k : ∀ v S1 H1, Ext A H A H1 → Wf K A S1 H1 → P (g v S1) → Q v H1) : PostB K A H Q r := by
  cases r with
  | ok v S1 => exact fun H1 e w => k v S1 H1 e w h
  | exc e S => exact (h1 _ _ h).elim
  | no => exact (h0 h).elim
theorem Post.shift {r : Res Val} (h : Post K A H Q r) (e : Ext A H A H2) (w : Wf K A S H2) : Post K A H2 Q r := by
  cases r with
  | ok v S1 =>
    cases v with
    | d x => exact fun v H' e' w' r => h v H' (e.trans e') w' r
    | c n => exact fun a H' e' w' r => h a H' (e.trans e') w' r
    | f k => exact fun a H' e' w' r => h a H' (e.trans e') w' (e.free w r)
    | z ds => exact fun v H' e' w' r => h v H' (e.trans e') w' r
    | g cs i => exact fun as a H' e' w' q l j => h as a H' (e.trans e') w' (fun b hb => e.free w (q b hb)) l j
    | x => exact fun v H' e' w' => h v H' (e.trans e') w'
  | exc _ _ => exact h
  | no => exact h
theorem PostA.shift {Q : List V → Hp → Prop} {r : Res (List Val)} (h : PostA K A H Q r) (e : Ext A H A H2) : PostA K A H2 Q r := by
  cases r with
  | ok v S1 => exact fun v H' e' w' r => h v H' (e.trans e') w' r
  | exc _ _ => exact h
  | no => exact h
theorem PostB.shift {Q : Bool → Hp → Prop} {r : Res Bool} (h : PostB K A H Q r) (e : Ext A H A H2) : PostB K A H2 Q r := by
  cases r with
  | ok v S1 => exact fun H' e' w' => h H' (e.trans e') w'
  | exc _ _ => exact h
  | no => exact h
theorem PostR.shift {v : Val} {Q : VK} (h : PostR K A S H Q v) (e : Ext A H A2 H2) (w : Wf K A2 S' H2) : PostR K A2 S H2 Q v := by
  cases v with
  | d x => exact fun A' v H' e' w' r => h A' v H' (e.trans e') w' r
  | c n => exact fun A' a H' e' w' r => h A' a H' (e.trans e') w' r
  | f k => exact fun A' a H' e' w' r => h A' a H' (e.trans e') w' (e.free w r)
  | z ds => exact fun A' v H' e' w' r => h A' v H' (e.trans e') w' r
  | g cs i => exact fun A' as a H' e' w' q l j => h A' as a H' (e.trans e') w' (fun b hb => e.free w (q b hb)) l j
  | x => exact fun A' v H' e' w' => h A' v H' (e.trans e') w'
theorem PostS.shift {r : Res Fw} (h : PostS K A H D r) (e : Ext A H A2 H2) (w : Wf K A2 S H2) : PostS K A2 H2 D r := by
  cases r with
  | ok f S1 =>
    cases f with
    | nx ρ => exact fun A' v H' e' w' r => h A' v H' (e.trans e') w' r
    | bk ρ => exact fun A' v H' e' w' r => h A' v H' (e.trans e') w' r
    | ct ρ => exact fun A' v H' e' w' r => h A' v H' (e.trans e') w' r
    | rt v => exact PostR.shift (v := v) h e w
  | exc _ _ => exact h
  | no => exact h
end

/-! ### readings -/
abbrev Sx := Envi → Sto → Res Val
abbrev SA := Envi → Sto → Res (List Val)
abbrev SB := Envi → Sto → Res Bool
abbrev Ss := Envi → Sto → Res Fw
def At (K : Frg) (σ : L2.St) (H : Hp) (P : Wd → Envi → Sto → Prop) : Prop := ∃ A S ρ, Wf K A S H ∧ REnv K A H ρ σ ∧ P A ρ S
def tE (K : Frg) (f : Sx) : TE := fun σ H Q => At K σ H fun A ρ S => Post K A H Q (f ρ S)
def tAr (K : Frg) (f : SA) : TA := fun σ H Q => At K σ H fun A ρ S => PostA K A H Q (f ρ S)
def tB (K : Frg) (f : SB) : TT := fun σ H Q => At K σ H fun A ρ S => PostB K A H Q (f ρ S)
def tS (K : Frg) (f : Ss) : TS := fun D σ H => At K σ H fun A ρ S => PostS K A H D (f ρ S)
section
variable {X : Cx}
theorem PEi {e : Expr} {t t' : TE} (h : PE X e t) (i : ∀ σ H Q, t' σ H Q → t σ H Q) : PE X e t' := ⟨fun pins s σ H Q I q => h.run pins s σ H Q I (i σ H Q q)⟩
theorem PTi {e : Expr} {t t' : TT} (h : PT X e t) (i : ∀ σ H Q, t' σ H Q → t σ H Q) : PT X e t' := ⟨fun pins s σ H Q I q => h.run pins s σ H Q I (i σ H Q q)⟩
theorem PWi {e : Expr} {t t' : TT} (h : PW X e t) (i : ∀ σ H Q, t' σ H Q → t σ H Q) : PW X e t' := ⟨fun wh pins s σ H Q I q => h.run wh pins s σ H Q I (i σ H Q q)⟩
theorem PAi {e : List Expr} {t t' : TA} (h : PA X e t) (i : ∀ σ H Q, t' σ H Q → t σ H Q) : PA X e t' := ⟨fun pos pins s σ H Q I q => h.run pos pins s σ H Q I (i σ H Q q)⟩
theorem PSi {e : Stmt} {t t' : TS} (h : PS X e t) (i : ∀ D σ H, t' D σ H → t D σ H) : PS X e t' := ⟨fun pins s σ H D I q => h.run pins s σ H D I (i D σ H q)⟩
theorem PSsi {e : List Stmt} {t t' : TS} (h : PSs X e t) (i : ∀ D σ H, t' D σ H → t D σ H) : PSs X e t' := ⟨fun pins s σ H D I q => h.run pins s σ H D I (i D σ H q)⟩

/-! ### names, constants -/
def evV (i : Nat) : Sx := fun ρ S => match ρ[i]? with
  | some (some v) => .ok v S
  | _ => .no
def evK (x : PyData) : Sx := fun _ S => .ok (.d x) S
theorem Post.val {K : Frg} {A : Wd} {H : Hp} {S : Sto} {Q : VK} {v : Val} {x : V} (w : Wf K A S H) (r : Rv K A H x v) (h : Post K A H Q (.ok v S)) : Q x H := by
  cases v with
  | d y => exact h x H .refl w r
  | c n => obtain ⟨a, e, rfl⟩ := r; exact h a H .refl w e
  | f k => exact r.elim
  | z ds => exact h x H .refl w r
  | g cs i => exact r.elim
  | x => obtain ⟨a, rfl⟩ := r; exact h a H .refl w
theorem eV (i : Nat) {x : Str} {pos : Pos} (hN : X.N[i]? = some x := by rfl) (hv : Vis X.env.scope x := by first | exact Or.inl rfl | exact Or.inr (Or.inl rfl) | exact Or.inr (Or.inr rfl)) (hd : (x == ("__debug__" : Str)) = false := by decide)
    (hcd : (x == ("__classdict__" : Str)) = false := by decide) : PE X (.Name x pos) (tE X.K (evV i)) := PEi (pe_var hN hv hd hcd) fun σ H Q ⟨A, S, ρ, w, env, p⟩ => by
  dsimp only [evV] at p
  split at p
  · rename_i v h
    obtain ⟨y, h1, h2⟩ := env.get i v h
    exact ⟨y, h1, Post.val w h2 p⟩
  · exact p.elim
theorem eC {e : Expr} {v : V} {x : PyData} (h : PE X e (tC v)) (r : ∀ A H, Rp X.K A H v x) : PE X e (tE X.K (evK x)) := PEi h fun σ H Q ⟨A, S, ρ, w, env, p⟩ => p v H .refl w (r A.V H)
theorem eInt {i : Int} {j pos} : PE X (.Constant (.int i) j pos) (tE X.K (evK (.int i))) := eC pe_int fun _ _ => .int i
theorem eBl {i : Bool} {j pos} : PE X (.Constant (.bool i) j pos) (tE X.K (evK (.bool i))) := eC pe_bl fun _ _ => .bl i
theorem eStr {i : Str} {j pos} : PE X (.Constant (.str i) j pos) (tE X.K (evK (.str i))) := eC pe_str fun _ _ => .str i
theorem eNon {j pos} : PE X (.Constant .none j pos) (tE X.K (evK .none)) := eC pe_non fun _ _ => .non

/-! ### operators by values -/
def ORul (X : Cx) (f : Value → Value → Sem Value) (g : Val → Val → Sto → Res Val) : Prop :=
  ∀ (pins : List (Addr × Obj)) (s : Shared) (σ : L2.St) (A : Wd) (S : Sto) (H : Hp) (x y : V) (a b : Value) (v w : Val) (Q : VK), Inv X pins σ H s → Wf X.K A S H → Rv X.K A H x v → Rv X.K A H y w → RelV x a → RelV y b →
    Post X.K A H Q (g v w S) → wpAny (model X.prog X.w) X.A (f a b) (EP X pins σ Q) X.xe s
def rO (K : Frg) (g : Val → Val → Sto → Res Val) : R2 := fun x y H Q => ∃ A S v w, Wf K A S H ∧ Rv K A H x v ∧ Rv K A H y w ∧ Post K A H Q (g v w S)
theorem ORul.op {f : Value → Value → Sem Value} {g : Val → Val → Sto → Res Val} (h : ORul X f g) : OpR X f (rO X.K g) := fun pins s σ H x y a b Q I ra rb ⟨A, S, v, w, wf, r1, r2, p⟩ => h pins s σ A S H x y a b v w Q I wf r1 r2 ra rb p
def ev2 (g : Val → Val → Sto → Res Val) (fa fb : Sx) : Sx := fun ρ S => (fa ρ S).bind fun v S1 => (fb ρ S1).bind fun w S2 => g v.th w.th S2
theorem ev2_ok {K : Frg} {g : Val → Val → Sto → Res Val} {fa fb : Sx} {σ : L2.St} {H : Hp} {Q : VK} (h : tE K (ev2 g fa fb) σ H Q) : tOp (rO K g) (tE K fa) (tE K fb) σ H Q := by
  obtain ⟨A, S, ρ, w, env, p⟩ := h
  refine ⟨A, S, ρ, w, env, Post.seq (P := Post K A H Q) p (fun h => h) (fun _ _ h => h) fun v S1 x H1 e1 w1 r1 p1 => ?_⟩
  refine ⟨A, S1, ρ, w1, env.mono e1, Post.seq (P := Post K A H Q) p1 (fun h => h) (fun _ _ h => h) fun u S2 y H2 e2 w2 r2 p2 => ?_⟩
  exact ⟨A, S2, v.th, u.th, w2, r1.mono e2, r2, p2.shift (e1.trans e2) w2⟩
variable {a b : Expr} {fa fb : Sx} {pos : Pos}
theorem eOp {op : Operator} {g : Val → Val → Sto → Res Val} (h : ORul X (binaryOp op) g) (ha : PE X a (tE X.K fa)) (hb : PE X b (tE X.K fb)) : PE X (.BinOp a op b pos) (tE X.K (ev2 g fa fb)) := PEi (pe_op h.op ha hb) fun _ _ _ => ev2_ok
theorem eCmp {op : CmpOp} {g : Val → Val → Sto → Res Val} (h : ORul X (compareOp op) g) (ha : PE X a (tE X.K fa)) (hb : PE X b (tE X.K fb)) (hm : behindInMarks op b = false := by first | exact nomark _ | rfl) : PE X (.Compare a [op] [b] pos) (tE X.K (ev2 g fa fb)) :=
  PEi (pe_cmpR h.op ha hb hm) fun _ _ _ => ev2_ok
/-! ### tests -/
def tst (f : Sx) : SB := fun ρ S => (f ρ S).bind fun v S1 => match v with
  | .d (.bool b) => .ok b S1
  | _ => .no
theorem tst_ok {K : Frg} {f : Sx} {σ : L2.St} {H : Hp} {Q : Bool → Hp → Prop} (h : tB K (tst f) σ H Q) : tTest (tE K f) σ H Q := by
  obtain ⟨A, S, ρ, w, env, p⟩ := h
  refine ⟨A, S, ρ, w, env, Post.seq (P := PostB K A H Q) p (fun h => h) (fun _ _ h => h) fun v S1 x H1 e1 w1 r1 p1 => ?_⟩
  split at p1
  · cases r1
    exact ⟨_, rfl, p1 H1 e1 w1⟩
  · exact p1.elim
theorem bCmp {op : CmpOp} {g : Val → Val → Sto → Res Val} (h : ORul X (compareOp op) g) (ha : PE X a (tE X.K fa)) (hb : PE X b (tE X.K fb)) (hm : behindInMarks op b = false := by first | exact nomark _ | rfl) : PT X (.Compare a [op] [b] pos) (tB X.K (tst (ev2 g fa fb))) :=
  PTi (pt_cmpR h.op ha hb hm) fun σ H Q q => by
    have z := tst_ok q
    exact ev2_ok z
theorem bVal (ha : PE X a (tE X.K fa)) (he : ∀ whole, isTrue a X.env whole = (do let v ← whole; standAt a.pos; holding [v] (truthy v)) := by intro _; rfl) : PT X a (tB X.K (tst fa)) := PTi (pt_val ha he) fun σ H Q q => tst_ok q
def bAnd (f g : SB) : SB := fun ρ S => (f ρ S).bind fun c S1 => if c = true then g ρ S1 else .ok false S1
def bOr (f g : SB) : SB := fun ρ S => (f ρ S).bind fun c S1 => if c = true then .ok true S1 else g ρ S1
def bNot (f : SB) : SB := fun ρ S => (f ρ S).bind fun c S1 => .ok (!c) S1
variable {ga gb : SB} {rest : List Expr}
theorem wAnd1 (ha : PT X a (tB X.K ga)) : PW X (.BoolOp .And [a] pos) (tB X.K ga) := pw_and1 ha
theorem wOr1 (ha : PT X a (tB X.K ga)) : PW X (.BoolOp .Or [a] pos) (tB X.K ga) := pw_or1 ha
theorem wAnd (ha : PT X a (tB X.K ga)) (hb : PW X (.BoolOp .And (b :: rest) pos) (tB X.K gb)) : PW X (.BoolOp .And (a :: b :: rest) pos) (tB X.K (bAnd ga gb)) := PWi (pw_and ha hb) fun σ H Q ⟨A, S, ρ, w, env, p⟩ =>
  ⟨A, S, ρ, w, env, PostB.seq (P := PostB X.K A H Q) p (fun h => h) (fun _ _ h => h) fun c S1 H1 e1 w1 p1 => by
    cases c with
    | true => rw [if_pos rfl] at p1 ⊢; exact ⟨A, S1, ρ, w1, env.mono e1, p1.shift e1⟩
    | false => rw [if_neg Bool.false_ne_true] at p1 ⊢; exact p1 H1 e1 w1⟩
theorem wOr (ha : PT X a (tB X.K ga)) (hb : PW X (.BoolOp .Or (b :: rest) pos) (tB X.K gb)) : PW X (.BoolOp .Or (a :: b :: rest) pos) (tB X.K (bOr ga gb)) := PWi (pw_or ha hb) fun σ H Q ⟨A, S, ρ, w, env, p⟩ =>
  ⟨A, S, ρ, w, env, PostB.seq (P := PostB X.K A H Q) p (fun h => h) (fun _ _ h => h) fun c S1 H1 e1 w1 p1 => by
    cases c with
    | true => rw [if_pos rfl] at p1 ⊢; exact p1 H1 e1 w1
    | false => rw [if_neg Bool.false_ne_true] at p1 ⊢; exact ⟨A, S1, ρ, w1, env.mono e1, p1.shift e1⟩⟩
theorem bPw (h : PW X a (tB X.K ga)) : PT X a (tB X.K ga) := h.pt
theorem bNo (ha : PT X a (tB X.K ga)) : PT X (.UnaryOp .Not a pos) (tB X.K (bNot ga)) := PTi (pt_not ha) fun σ H Q ⟨A, S, ρ, w, env, p⟩ =>
  ⟨A, S, ρ, w, env, PostB.seq (P := PostB X.K A H Q) p (fun h => h) (fun _ _ h => h) fun c S1 H1 e1 w1 p1 => p1 H1 e1 w1⟩
/-! .. as values -/
def evAnd (f g : Sx) : Sx := fun ρ S => (tst f ρ S).bind fun c S1 => if c = true then g ρ S1 else .ok (.d (.bool false)) S1
def evOr (f g : Sx) : Sx := fun ρ S => (tst f ρ S).bind fun c S1 => if c = true then .ok (.d (.bool true)) S1 else g ρ S1
def evNot (f : Sx) : Sx := fun ρ S => (tst f ρ S).bind fun c S1 => .ok (.d (.bool (!c))) S1
theorem tst_seq {K : Frg} {f : Sx} {σ : L2.St} {H : Hp} {Q : VK} {A : Wd} {S : Sto} {ρ : Envi} {g : Bool → Sto → Res Val} {R : V → Hp → Prop} (w : Wf K A S H) (env : REnv K A H ρ σ) (p : Post K A H Q ((tst f ρ S).bind g))
    (k : ∀ c S1 H1, Ext A H A H1 → Wf K A S1 H1 → REnv K A H1 ρ σ → Post K A H1 Q (g c S1) → R (.bl c) H1) : tE K f σ H R := by
  refine ⟨A, S, ρ, w, env, ?_⟩
  unfold tst at p
  cases hf : f ρ S with
  | ok v S1 =>
    rw [hf] at p
    show Post K A H R (f ρ S)
    rw [hf]
    refine Post.th fun x H1 e1 w1 r1 => ?_
    dsimp only [Res.bind] at p
    split at p
    · rename_i q
      split at q
      · injection q with q1 q2
        subst q1 q2
        cases r1
        exact k _ _ H1 e1 w1 (env.mono e1) (p.shift e1 w1)
      · cases q
    · exact p.elim
    · exact p.elim
  | exc e S => rw [hf] at p; exact p.elim
  | no => rw [hf] at p; exact p.elim
theorem eAnd (ha : PE X a (tE X.K fa)) (hb : PE X (.BoolOp .And (b :: rest) pos) (tE X.K fb)) : PE X (.BoolOp .And (a :: b :: rest) pos) (tE X.K (evAnd fa fb)) := PEi (pe_and ha hb) fun σ H Q ⟨A, S, ρ, w, env, p⟩ =>
  tst_seq w env p fun c S1 H1 e1 w1 env1 p1 => ⟨c, rfl, by
    cases c with
    | true => rw [if_pos rfl] at p1 ⊢; exact ⟨A, S1, ρ, w1, env1, p1⟩
    | false => rw [if_neg Bool.false_ne_true] at p1 ⊢; exact p1 _ H1 .refl w1 (.bl _)⟩
theorem eOr (ha : PE X a (tE X.K fa)) (hb : PE X (.BoolOp .Or (b :: rest) pos) (tE X.K fb)) : PE X (.BoolOp .Or (a :: b :: rest) pos) (tE X.K (evOr fa fb)) := PEi (pe_or ha hb) fun σ H Q ⟨A, S, ρ, w, env, p⟩ =>
  tst_seq w env p fun c S1 H1 e1 w1 env1 p1 => ⟨c, rfl, by
    cases c with
    | true => rw [if_pos rfl] at p1 ⊢; exact p1 _ H1 .refl w1 (.bl _)
    | false => rw [if_neg Bool.false_ne_true] at p1 ⊢; exact ⟨A, S1, ρ, w1, env1, p1⟩⟩
theorem eOne {op} (h : PE X a (tE X.K fa)) : PE X (.BoolOp op [a] pos) (tE X.K fa) := pe_one h
theorem eNot (ha : PE X a (tE X.K fa)) : PE X (.UnaryOp .Not a pos) (tE X.K (evNot fa)) := PEi (pe_not ha) fun σ H Q ⟨A, S, ρ, w, env, p⟩ =>
  tst_seq w env p fun c S1 H1 e1 w1 env1 p1 => ⟨c, rfl, p1 _ H1 .refl w1 (.bl _)⟩
def evIf (c : SB) (f g : Sx) : Sx := fun ρ S => (c ρ S).bind fun k S1 => if k = true then f ρ S1 else g ρ S1
theorem eIf {c : Expr} {gc : SB} (hc : PT X c (tB X.K gc)) (ha : PE X a (tE X.K fa)) (hb : PE X b (tE X.K fb)) : PE X (.IfExp c a b pos) (tE X.K (evIf gc fa fb)) := PEi (pe_ifExp hc ha hb) fun σ H Q ⟨A, S, ρ, w, env, p⟩ =>
  ⟨A, S, ρ, w, env, PostB.seq (P := Post X.K A H Q) p (fun h => h) (fun _ _ h => h) fun c S1 H1 e1 w1 p1 => by
    cases c with
    | true => rw [if_pos rfl] at p1 ⊢; exact ⟨A, S1, ρ, w1, env.mono e1, p1.shift e1 w1⟩
    | false => rw [if_neg Bool.false_ne_true] at p1 ⊢; exact ⟨A, S1, ρ, w1, env.mono e1, p1.shift e1 w1⟩⟩
def evChain (g g' : Val → Val → Sto → Res Val) (fa fb fc : Sx) : Sx := fun ρ S => (fa ρ S).bind fun v S1 => (fb ρ S1).bind fun w S2 => (g v.th w.th S2).bind fun z S3 => match z with
  | .d (.bool true) => (fc ρ S3).bind fun u S4 => g' w.th u.th S4
  | .d (.bool false) => .ok z S3
  | _ => .no
theorem eChain {op op' : CmpOp} {g g' : Val → Val → Sto → Res Val} {c : Expr} {fc : Sx} (h : ORul X (compareOp op) g) (h' : ORul X (compareOp op') g') (ha : PE X a (tE X.K fa)) (hb : PE X b (tE X.K fb)) (hc : PE X c (tE X.K fc))
    (hm : lastMarks [op, op'] [b, c] = false := by rfl) : PE X (.Compare a [op, op'] [b, c] pos) (tE X.K (evChain g g' fa fb fc)) :=
  PEi (pe_chain h.op h'.op ha hb hc hm) fun σ H Q ⟨A, S, ρ, w, env, p⟩ =>
  ⟨A, S, ρ, w, env, Post.seq (P := Post X.K A H Q) p (fun h => h) (fun _ _ h => h) fun v S1 x H1 e1 w1 r1 p1 =>
    ⟨A, S1, ρ, w1, env.mono e1, Post.seq (P := Post X.K A H Q) p1 (fun h => h) (fun _ _ h => h) fun u S2 y H2 e2 w2 r2 p2 =>
      ⟨A, S2, v.th, u.th, w2, r1.mono e2, r2, Post.seq (P := Post X.K A H Q) p2 (fun h => h) (fun _ _ h => h) fun z S3 t H3 e3 w3 r3 p3 => by
        split at p3
        · cases r3
          refine ⟨true, rfl, ?_⟩
          rw [if_pos rfl]
          have e4 := (e1.trans e2).trans e3
          exact ⟨A, S3, ρ, w3, env.mono e4, Post.seq (P := Post X.K A H Q) p3 (fun h => h) (fun _ _ h => h) fun u' S4 y' H4 e5 w4 r4 p4 => ⟨A, S4, u.th, u'.th, w4, (r2.mono e3).mono e5, r4, p4.shift (e4.trans e5) w4⟩⟩
        · cases r3
          refine ⟨false, rfl, ?_⟩
          rw [if_neg Bool.false_ne_true]
          exact p3 _ H3 ((e1.trans e2).trans e3) w3 (.bl _)
        · exact p3.elim⟩⟩⟩
end
end MV
set_option Elab.async false
set_option linter.all false
set_option maxRecDepth 100000
/-! Readings by mirrors: arguments, displays, calls, targets, statements, loops, comprehensions. -/
namespace MV
open PySem PySem.Spec PyProof.Rows L2
/-! ### what stays when a list that is being made grows -/
def Kx (W : Wd) (H : Hp) (W' : Wd) (H' : Hp) : Prop := (∃ B, W'.A = W.A ++ B) ∧ Kp W.V H W'.V H'
theorem Ext.kx {A A' : Wd} {H H' : Hp} (e : Ext A H A' H') : Kx A H A' H' := ⟨e.pre, e.kp⟩
section
variable {X : Cx} {K : Frg} {a b : Expr} {fa fb : Sx} {pos : Pos} {A A' A2 : Wd} {H H' H2 : Hp} {S S' : Sto} {Q : VK} {ρ : Envi} {σ : L2.St} {D : Ends}
/-- chain an expression's end -/
theorem at_seq {β : Type} {P : Res β → Prop} {f : Sx} {g : Val → Sto → Res β} {Q : VK} (w : Wf K A S H) (env : REnv K A H ρ σ) (p : P ((f ρ S).bind g)) (h0 : P .no → False) (h1 : ∀ e S, P (.exc e S) → False)
    (k : ∀ v S1 x H1, Ext A H A H1 → Wf K A S1 H1 → Rv K A H1 x v.th → P (g v S1) → Q x H1) : tE K f σ H Q := ⟨A, S, ρ, w, env, Post.seq (P := P) p h0 h1 k⟩

/-! ### arguments, displays -/
def aNil : SA := fun _ S => .ok [] S
def aCons (f : Sx) (g : SA) : SA := fun ρ S => (f ρ S).bind fun v S1 => (g ρ S1).bind fun vs S2 => .ok (v.th :: vs) S2
theorem aN : PA X [] (tAr X.K aNil) := PAi pa_nil fun σ H Q ⟨A, S, ρ, w, env, p⟩ => p [] H .refl w .nil
theorem aC {e : Expr} {es : List Expr} {f : Sx} {g : SA} (he : PE X e (tE X.K f)) (hr : PA X es (tAr X.K g)) (hs : starEach (e :: es) X.env = (false, eval e X.env) :: starEach es X.env := by rfl) : PA X (e :: es) (tAr X.K (aCons f g)) :=
  PAi (pa_cons he hr hs) fun σ H Q ⟨A, S, ρ, w, env, p⟩ => at_seq (P := PostA X.K A H Q) w env p (fun h => h) (fun _ _ h => h) fun v S1 x H1 e1 w1 r1 p1 =>
    ⟨A, S1, ρ, w1, env.mono e1, PostA.seq (P := PostA X.K A H Q) p1 (fun h => h) (fun _ _ h => h) fun vs S2 xs H2 e2 w2 r2 p2 => p2 _ H2 (e1.trans e2) w2 (.cons (r1.mono e2) r2)⟩
def datas : List Val → Option (List PyData)
  | [] => some []
  | .d x :: r => (datas r).map (x :: ·)
  | _ :: _ => none
theorem datas_ok : ∀ {vs : List Val} {xs : List V} {ds : List PyData}, datas vs = some ds → RvL K A H xs vs → RpL K A.V H xs ds
  | [], _, _, h, .nil => by cases h; exact .nil
  | .d x :: r, _, ds, h, .cons r1 r2 => by
    unfold datas at h
    cases q : datas r with
    | none => rw [q] at h; cases h
    | some es => rw [q] at h; cases h; exact .cons r1 (datas_ok q r2)
def evTup (f : SA) : Sx := fun ρ S => (f ρ S).bind fun vs S1 => match datas vs with
  | some ds => if ds.length ≤ 1000 then .ok (.d (.tuple ds)) S1 else .no
  | none => .no
def evLst (f : SA) : Sx := fun ρ S => (f ρ S).bind fun vs S1 => match datas vs with
  | some ds => if ds.length ≤ 1000 then .ok (.f (.lst ds)) S1 else .no
  | none => .no
theorem line1000 {n : Nat} (h : n ≤ 1000) : n ≤ sizeLine := Nat.le_of_lt (small1000 h)
/-- a new tuple, a new list at hand -/
theorem Post.tup {ds : List PyData} {xs : List V} {p : Addr} (h : Post K A H Q (.ok (.d (.tuple ds)) S)) (e : Ext A H A H2) (w : Wf K A S H2) (hp : H2 p = none) (r : RpL K A.V H2 xs ds) : Q (.ref p) (upd H2 p (.tup xs)) :=
  h _ _ (e.trans (.laid hp)) (w.laid hp) (.tup (.inl ⟨.inl upd_same, w.off hp⟩) (r.mono (Ext.laid hp).kp))
theorem push_cell {ds : List PyData} {xs : List V} {p : Addr} (w : Wf K A S H2) (hp : H2 p = none) (r : RpL K A.V H2 xs ds) : Wf K (A.push p) (S ++ [.lst ds]) (upd H2 p (.lst xs)) :=
  w.new hp ⟨xs, upd_same, r.mono (Ext.push hp w).kp⟩
theorem Post.lst {ds : List PyData} {xs : List V} {p : Addr} (h : Post K A H Q (.ok (.f (.lst ds)) S)) (e : Ext A H A H2) (w : Wf K A S H2) (hp : H2 p = none) (r : RpL K A.V H2 xs ds) : Q (.ref p) (upd H2 p (.lst xs)) :=
  h _ _ (e.trans (.laid hp)) (push_cell w hp r) (e.free w hp)
theorem eTup {es : List Expr} {f : SA} {k} (h : PA X es (tAr X.K f)) : PE X (.Tuple es k pos) (tE X.K (evTup f)) := PEi (pe_tup h) fun σ H Q ⟨A, S, ρ, w, env, p⟩ =>
  ⟨A, S, ρ, w, env, PostA.seq (P := Post X.K A H Q) p (fun h => h) (fun _ _ h => h) fun vs S1 xs H1 e1 w1 r1 p1 => by
    split at p1
    · rename_i ds hd
      split at p1
      · rename_i hl
        have r := datas_ok hd r1
        exact ⟨by rw [r.length]; exact line1000 hl, fun q hq => p1.tup e1 w1 hq r⟩
      · exact p1.elim
    · exact p1.elim⟩
theorem eLst {es : List Expr} {f : SA} (h : PA X es (tAr X.K f)) : PE X (.List es pos) (tE X.K (evLst f)) := PEi (pe_lst h) fun σ H Q ⟨A, S, ρ, w, env, p⟩ =>
  ⟨A, S, ρ, w, env, PostA.seq (P := Post X.K A H Q) p (fun h => h) (fun _ _ h => h) fun vs S1 xs H1 e1 w1 r1 p1 => by
    split at p1
    · rename_i ds hd
      split at p1
      · rename_i hl
        have r := datas_ok hd r1
        exact ⟨by rw [r.length]; exact line1000 hl, fun q hq => p1.lst e1 w1 hq r⟩
      · exact p1.elim
    · exact p1.elim⟩

/-! ### calls -/
def BRul (X : Cx) (f : Value) (g : List Val → Sto → Res Val) : Prop :=
  ∀ (pins : List (Addr × Obj)) (s : Shared) (σ : L2.St) (A : Wd) (S : Sto) (H : Hp) (xs : List V) (us : List Value) (vs : List Val) (Q : VK), Inv X pins σ H s → Wf X.K A S H → RvL X.K A H xs vs → Vals xs us →
    Post X.K A H Q (g vs S) → wpAny (model X.prog X.w) X.A (call f us) (EP X pins σ Q) X.xe s
def rB (K : Frg) (g : List Val → Sto → Res Val) : List V → Hp → VK → Prop := fun xs H Q => ∃ A S vs, Wf K A S H ∧ RvL K A H xs vs ∧ Post K A H Q (g vs S)
theorem BRul.call {f : Value} {g : List Val → Sto → Res Val} (h : BRul X f g) : CallR X f (rB X.K g) := fun pins s σ H xs us Q I r ⟨A, S, vs, w, r2, p⟩ => h pins s σ A S H xs us vs Q I w r2 r p
def evCall (g : List Val → Sto → Res Val) (f : SA) : Sx := fun ρ S => (f ρ S).bind g
theorem call_ok {g : List Val → Sto → Res Val} {f : SA} (h : tE K (evCall g f) σ H Q) : tCB (rB K g) (tAr K f) σ H Q := by
  obtain ⟨A, S, ρ, w, env, p⟩ := h
  exact ⟨A, S, ρ, w, env, PostA.seq (P := Post K A H Q) p (fun h => h) (fun _ _ h => h) fun vs S1 xs H1 e1 w1 r1 p1 => ⟨A, S1, vs, w1, r1, p1.shift e1 w1⟩⟩
section
variable {x : Str} {p : Pos} {e : Expr} {es : List Expr} {f : SA} {id T : String} {g : List Val → Sto → Res Val}
theorem eB (hc : BRul X (.builtin id) g) (hg : Gl X x) (hm : X.mg x = none) (hv : bootBuiltins x = some (.builtin id)) (ha : PA X (e :: es) (tAr X.K f)) (hn : x ≠ "__name__" := by decide) (hdb : (x == ("__debug__" : Str)) = false := by decide)
    (he : starEach (e :: es) X.env = (false, eval e X.env) :: starEach es X.env := by rfl) (hpl : (backTo pos (starEach es X.env)).any (·.1) = false := by rfl) : PE X (.Call (.Name x p) (e :: es) [] pos) (tE X.K (evCall g f)) :=
  PEi (pe_callB hc.call hg hm hv ha hn hdb he hpl) fun _ _ _ => call_ok
theorem eT (hc : BRul X (.type T) g) (hg : Gl X x) (hm : X.mg x = none) (hv : bootBuiltins x = some (.type T)) (ha : PA X (e :: es) (tAr X.K f)) (hn : x ≠ "__name__" := by decide) (hdb : (x == ("__debug__" : Str)) = false := by decide)
    (he : starEach (e :: es) X.env = (false, eval e X.env) :: starEach es X.env := by rfl) (hpl : (backTo pos (starEach es X.env)).any (·.1) = false := by rfl) : PE X (.Call (.Name x p) (e :: es) [] pos) (tE X.K (evCall g f)) :=
  PEi (pe_callTy hc.call hg hm hv ha hn hdb he hpl) fun _ _ _ => call_ok
end
/-! ### defs, called where no container's text is being made -/
structure FnG (P : Program) (w : World) (K : Frg) (mg : Str → Option Value) (base : Heap) (k : Nat) (f : Addr) (fd : FuncData) (ps : List Str) (sp : Sp) : Prop where
  arity : ∀ xs H Q E, sp xs H Q E → xs.length = ps.length
  runs : ∀ (A : Around) (out : List PySem.Env) (s : Shared) (H : Hp) (ar : Args) (us : List Value) (xs : List V) (Q : VK) (E : XK),
    Room k A → A.guards = some [] → Env0 P w K mg base A out s H → BindsTo s fd ar (ps.zip us) → Vals xs us → sp xs H Q E → codeAny (model P w) A (.call (.ref f) ar) (CR CX0 out P w H s Q E) s
theorem FnG.up {P : Program} {w : World} {K : Frg} {mg : Str → Option Value} {base : Heap} {j k : Nat} {f : Addr} {fd : FuncData} {ps : List Str} {sp : Sp} (F : FnG P w K mg base j f fd ps sp) (le : j ≤ k) : FnG P w K mg base k f fd ps sp :=
  ⟨F.arity, fun A out s H ar us xs Q E room => F.runs A out s H ar us xs Q E (room.mono le)⟩
theorem fnG_of {P : Program} {w : World} {K : Frg} {mg : Str → Option Value} {base : Heap} {x qual : Str} {st : Stmt} {f : Addr} {fd : FuncData} {N ps : List Str} {k : Nat} {sp : Sp} (F : Fun K x qual st f fd) (Sc : FnScope N ps (defScope st))
    (ar0 : ∀ xs H Q E, sp xs H Q E → xs.length = ps.length)
    (body : ∀ (cdv : Value) (A : Around) (out : List PySem.Env) (s : Shared) (H : Hp) (xs : List V) (Q : VK) (E : XK), Room k (A.deeper (envOfC qual (defScope st) s.heap.objs.size f cdv)) → A.guards = some [] → sp xs H Q E →
      ∃ t, PSs (cxOf CX0 P w K mg base N qual (defScope st) f cdv A out s H E).nox (defBody st) t ∧ t { nx := fun _ H' => Q .non H', rt := Q } (L2.start N xs) H) : FnG P w K mg base (k + 1) f fd ps sp := by
  obtain ⟨oc, od, kV, dc, pm, an, cdv, ct, osl, e_fd, found, code⟩ := F.ex
  subst e_fd
  constructor
  · exact ar0
  · intro A out s H ar us xs Q E room gd env0 bnd rel promise
    have arity := ar0 _ _ _ _ promise
    have inK : K.In s.heap := env0.mod.kin.keeps fun c v q => (env0.bs c v q).1
    have noLim : s.heap.NoLimit := env0.mod.nolimit.keeps fun c v q => (env0.bs c v q).1
    have kinds : ∀ z ∈ ps.zip us, (defScope st).names.lookup z.1 = some .local ∨ ((defScope st).names.lookup z.1 = some .cell ∧ ((cellsFrom (s.heap.objs.size + 1) (defScope st).names []).lookup z.1).isSome = true) := by
      rintro ⟨n, v⟩ hz
      rcases Sc.par n (List.of_mem_zip hz).1 with lo | ce
      · exact Or.inl lo
      · exact Or.inr ⟨ce, PySem.W.cellsFrom_some _ _ _ (Or.inl ce)⟩
    refine codeAny_call_function room.depth (inK _ _ found) rfl Sc.co Sc.gen rfl (PySem.W.codeRec_of inK code) (bnd _ _ _ _ (wpAny_newFunctionEnv_cells Sc.kind kinds fun env' e_env s' frame => ?_))
    subst e_env
    refine ⟨noLim.keeps frame.toInCall.keep, codeAny_func ?_⟩
    obtain ⟨t, walk, holds⟩ := body cdv A out s H xs Q E (room.deeper _) gd promise
    have inv0 : Inv (cxOf CX0 P w K mg base N qual (defScope st) f cdv A out s H E) [] (L2.start N xs) H s' := inv_start Sc room.hd env0 arity rel frame
    refine wpAny_mono (walk.nox.run [] s' (L2.start N xs) H _ inv0 holds) ?_ fun e s2 q => q
    intro fl s2 ends
    cases fl with
    | ret u =>
      obtain ⟨v, σ2, H2, inv2, rel2, q⟩ := ends
      exact ⟨v, H2, inv2.os, inv2.bare, inv2.base, inv2.hok, rel2, q⟩
    | next =>
      obtain ⟨σ2, H2, inv2, q⟩ := ends
      exact ⟨V.non, H2, inv2.os, inv2.bare, inv2.base, inv2.hok, rfl, q⟩
    | brk =>
      obtain ⟨_, _, _, q⟩ := ends
      exact q.elim
    | cont =>
      obtain ⟨_, _, _, q⟩ := ends
      exact q.elim
section
variable {x : Str} {p : Pos} {e : Expr} {es : List Expr} {k : Nat} {fa : Addr} {fd : FuncData} {ps : List Str} {sp : Sp} {t : TA}
theorem runG {pins : List (Addr × Obj)} {s : Shared} {us : List Value} {xs : List V} (F : FnG X.prog X.w X.K X.mg X.base k fa fd ps sp) (room : Room k X.A) (gd : X.A.guards = some []) (hb : Binds X.K fd ps []) (I : Inv X pins σ H s) (r : Vals xs us) (h : sp xs H Q E0) :
    wpAny (model X.prog X.w) X.A (call (.ref fa) us) (EP X pins σ Q) X.xe s := by
  have n : us.length = ps.length := r.length.symm.trans (F.arity _ _ _ _ h)
  have b := hb s us I.kIn (by rw [List.append_nil]; exact n)
  rw [List.append_nil] at b
  refine wpAny_call (codeAny_mono (F.runs X.A X.stack s H ⟨us, []⟩ us xs Q E0 room gd I.env0 b r h) ?_)
  intro res s2 q
  match res, q with
  | .ok (.ret u), q => exact I.after q
  | .ok .next, q => exact q.elim
  | .ok .brk, q => exact q.elim
  | .ok .cont, q => exact q.elim
  | .error e, q => exact q.elim
def tCl (sp : Sp) (t : TA) : TE := fun σ H Q => t σ H fun xs H1 => sp xs H1 Q E0
theorem peG (F : FnG X.prog X.w X.K X.mg X.base k fa fd ps sp) (room : Room k X.A) (gd : X.A.guards = some []) (hg : Gl X x) (hm : X.mg x = some (.ref fa)) (hk : PySem.W.keepIn X.K (.ref fa) = true) (hb : Binds X.K fd ps [])
    (ha : PA X (e :: es) t) (hdb : (x == ("__debug__" : Str)) = false := by decide) (he : starEach (e :: es) X.env = (false, eval e X.env) :: starEach es X.env := by rfl) (hpl : (backTo pos (starEach es X.env)).any (·.1) = false := by rfl) :
    PE X (.Call (.Name x p) (e :: es) [] pos) (tCl sp t) := by
  constructor
  intro pins s σ H Q I h
  refine wpAny_Call_Name_kw (ld_glob I hg hm (PySem.W.callWith_K (h₀ := X.base) I.ok.mod.kin hk (thn (ha.run pos pins s σ H _ I h) ?_) he hpl) hdb)
  rintro us s2 ⟨xs, H2, I2, r, q⟩
  exact ⟨I2.kIn, runG F room gd hb I2 r q⟩
theorem peG0 (F : FnG X.prog X.w X.K X.mg X.base k fa fd ps sp) (room : Room k X.A) (gd : X.A.guards = some []) (hg : Gl X x) (hm : X.mg x = some (.ref fa)) (hk : PySem.W.keepIn X.K (.ref fa) = true) (hb : Binds X.K fd ps [])
    (hdb : (x == ("__debug__" : Str)) = false := by decide) : PE X (.Call (.Name x p) [] [] pos) (fun _ H Q => sp [] H Q E0) := by
  constructor
  intro pins s σ H Q I h
  exact wpAny_Call_Name_kw (ld_glob I hg hm (PySem.W.callWith_K0 I.kIn hk (runG (us := []) F room gd hb I .nil h)) hdb)
end
abbrev Fn := List Val → Sto → Res Val
/-- a def keeps its mirror -/
def spF (K : Frg) (m : Fn) : Sp := fun xs H Q _ => rB K m xs H Q
section
variable {x : Str} {p : Pos} {e : Expr} {es : List Expr} {f : SA} {k : Nat} {fa : Addr} {fd : FuncData} {ps : List Str} {m : Fn}
theorem eF (F : FnG X.prog X.w X.K X.mg X.base k fa fd ps (spF X.K m)) (hr : Room k X.A) (gd : X.A.guards = some []) (hg : Gl X x) (hm : X.mg x = some (.ref fa)) (hk : PySem.W.keepIn X.K (.ref fa) = true) (hb : Binds X.K fd ps [])
    (ha : PA X (e :: es) (tAr X.K f)) (hdb : (x == ("__debug__" : Str)) = false := by decide) (he : starEach (e :: es) X.env = (false, eval e X.env) :: starEach es X.env := by rfl) (hpl : (backTo pos (starEach es X.env)).any (·.1) = false := by rfl) :
    PE X (.Call (.Name x p) (e :: es) [] pos) (tE X.K (evCall m f)) :=
  PEi (peG F hr gd hg hm hk hb ha hdb he hpl) fun σ H Q ⟨A, S, ρ, w, env, p⟩ => ⟨A, S, ρ, w, env, PostA.seq (P := Post X.K A H Q) p (fun h => h) (fun _ _ h => h) fun vs S1 xs H1 e1 w1 r1 p1 => ⟨A, S1, vs, w1, r1, p1.shift e1 w1⟩⟩
theorem eF0 (F : FnG X.prog X.w X.K X.mg X.base k fa fd ps (spF X.K m)) (hr : Room k X.A) (gd : X.A.guards = some []) (hg : Gl X x) (hm : X.mg x = some (.ref fa)) (hk : PySem.W.keepIn X.K (.ref fa) = true) (hb : Binds X.K fd ps [])
    (hdb : (x == ("__debug__" : Str)) = false := by decide) : PE X (.Call (.Name x p) [] [] pos) (tE X.K (evCall m aNil)) :=
  PEi (peG0 F hr gd hg hm hk hb hdb) fun σ H Q ⟨A, S, ρ, w, env, p⟩ => ⟨A, S, [], w, .nil, p⟩
end

/-! ### targets -/
structure Bnd where
  sl : List Nat
  go : PyData → Envi → Option Envi
def tG (K : Frg) (b : Bnd) : TG := fun v σ H Q => ∃ A ρ x ρ', REnv K A H ρ σ ∧ Rp K A.V H v x ∧ b.go x ρ = some ρ' ∧ ∀ σ' : L2.St, σ'.length = σ.length → (∀ j, j ∉ b.sl → σ'[j]? = σ[j]?) → REnv K A H ρ' σ' → Q σ' H
def bName (i : Nat) : Bnd := ⟨[i], fun x ρ => some (ρ.set i (some (.d x)))⟩
theorem REnv.set {i : Nat} {x : V} {v : Val} (env : REnv K A H ρ σ) (r : Rv K A H x v) : REnv K A H (ρ.set i (some v)) (σ.set i (some x)) := by
  refine ⟨by rw [List.length_set, List.length_set]; exact env.len, fun j u h => ?_⟩
  by_cases e : j = i
  · subst e
    have hl : j < ρ.length := by
      have := (List.getElem?_eq_some_iff.mp h).1
      rwa [List.length_set] at this
    rw [List.getElem?_set_self hl] at h
    cases h
    exact ⟨x, by rw [List.getElem?_set_self (by rw [env.len]; exact hl)], r⟩
  · rw [List.getElem?_set_ne (Ne.symm e)] at h
    obtain ⟨y, h1, h2⟩ := env.get j u h
    exact ⟨y, by rw [List.getElem?_set_ne (Ne.symm e)]; exact h1, h2⟩
theorem gN {i : Nat} {x : Str} (hN : X.N.Nodup) (hi : X.N[i]? = some x) (hx : Loc X.env.scope x) (hf : X.fn x = true ∨ X.env.scope.names.lookup x = some .local := by first | exact .inl rfl | exact .inr rfl | assumption) : PG X (.Name x pos) (tG X.K (bName i)) :=
  ⟨fun pins s σ H v u Q I r h => (pg_name hN hi hx hf).run pins s σ H v u Q I r (by
    obtain ⟨A, ρ, y, ρ', env, rp, e, q⟩ := h
    cases e
    refine q _ (by rw [List.length_set]) (fun j hj => ?_) (env.set (v := .d y) rp)
    rw [List.getElem?_set_ne (fun e => hj (by rw [e]; exact List.mem_singleton.mpr rfl))])⟩
def goL : List Bnd → List PyData → Envi → Option Envi
  | [], [], ρ => some ρ
  | b :: bs, x :: xs, ρ => match b.go x ρ with
    | some ρ1 => goL bs xs ρ1
    | none => none
  | _, _, _ => none
def slL (bs : List Bnd) : List Nat := (bs.map (·.sl)).flatten
def bTup (bs : List Bnd) : Bnd := ⟨slL bs, fun x ρ => match x with
  | .tuple ds => goL bs ds ρ
  | _ => none⟩
def tGs (K : Frg) (bs : List Bnd) : TGs := fun vs σ H Q => ∃ A ρ xs ρ', REnv K A H ρ σ ∧ RpL K A.V H vs xs ∧ goL bs xs ρ = some ρ' ∧ ∀ σ' : L2.St, σ'.length = σ.length → (∀ j, j ∉ slL bs → σ'[j]? = σ[j]?) → REnv K A H ρ' σ' → Q σ' H
theorem gsN : PGs X [] (tGs X.K []) := ⟨fun pins s σ H vs us Q I r h => pgs_nil.run pins s σ H vs us Q I r (by
  obtain ⟨A, ρ, xs, ρ', env, rp, e, q⟩ := h
  cases rp with
  | nil => cases e; exact ⟨rfl, q σ rfl (fun _ _ => rfl) env⟩
  | cons _ _ => cases e)⟩
theorem gsC {e : Expr} {es : List Expr} {b : Bnd} {bs : List Bnd} (h1 : PG X e (tG X.K b)) (h2 : PGs X es (tGs X.K bs))
    (hs : (assignEach (e :: es) X.env).map (·.2) = assign e X.env :: (assignEach es X.env).map (·.2) := by rfl) : PGs X (e :: es) (tGs X.K (b :: bs)) :=
  ⟨fun pins s σ H vs us Q I r h => (pgs_cons h1 h2 hs).run pins s σ H vs us Q I r (by
    obtain ⟨A, ρ, xs, ρ', env, rp, e, q⟩ := h
    cases rp with
    | nil => cases e
    | cons r1 r2 =>
      rename_i v vr x xr
      refine ⟨v, vr, rfl, ?_⟩
      unfold goL at e
      split at e
      · rename_i ρ1 h1
        refine ⟨A, ρ, x, ρ1, env, r1, h1, fun σ1 hl hj env1 => ⟨A, ρ1, xr, ρ', env1, r2, e, fun σ2 hl2 hj2 env2 => q σ2 (hl2.trans hl) (fun j hj' => ?_) env2⟩⟩
        have n1 : j ∉ b.sl := fun m => hj' (by unfold slL; exact List.mem_append_left _ m)
        have n2 : j ∉ slL bs := fun m => hj' (by unfold slL; exact List.mem_append_right _ m)
        exact (hj2 j n2).trans (hj j n1)
      · cases e)⟩
theorem goL_len : ∀ {bs : List Bnd} {xs : List PyData} {ρ ρ' : Envi}, goL bs xs ρ = some ρ' → xs.length = bs.length
  | [], [], _, _, _ => rfl
  | [], _ :: _, _, _, h => by cases h
  | _ :: _, [], _, _, h => by cases h
  | b :: bs, x :: xs, ρ, ρ', h => by
    unfold goL at h
    split at h
    · rw [List.length_cons, List.length_cons, goL_len h]
    · cases h
theorem gT {es : List Expr} {k : Nat} {bs : List Bnd} {n : Nat} (hc : X.calm = true) (h : PGs X es (tGs X.K bs)) (hnb : bs.length = n := by rfl)
    (hn : (assignEach es X.env).length = n := by rfl) (hst : (assignEach es X.env).findIdx? (·.1) = none := by rfl) : PG X (.Tuple es k pos) (tG X.K (bTup bs)) :=
  ⟨fun pins s σ H v u Q I r hw => (pg_tup hc h hn hst).run pins s σ H v u Q I r (by
    obtain ⟨A, ρ, x, ρ', env, rp, e, q⟩ := hw
    cases rp with
    | tup l t =>
      rename_i a xs ds
      exact ⟨a, xs, rfl, l.seq, by rw [t.length, goL_len e, hnb], A, ρ, ds, ρ', env, t, e, q⟩
    | _ => cases e)⟩

/-! ### statements -/
def sNil : Ss := fun ρ S => .ok (.nx ρ) S
def sSeq (f g : Ss) : Ss := fun ρ S => (f ρ S).bind fun w S1 => match w with
  | .nx ρ1 => g ρ1 S1
  | .rt v => .ok (.rt v) S1
  | .bk ρ1 => .ok (.bk ρ1) S1
  | .ct ρ1 => .ok (.ct ρ1) S1
theorem ssN : PSs X [] (tS X.K sNil) := PSsi pss_nil fun D σ H ⟨A, S, ρ, w, env, p⟩ => p A σ H .refl w env
theorem seq_ok {f g : Ss} (w : Wf K A S H) (p : PostS K A H D (sSeq f g ρ S)) : PostS K A H { D with nx := tS K g D } (f ρ S) := by
  unfold sSeq at p
  cases h : f ρ S with
  | no => rw [h] at p; exact p
  | exc e S1 => rw [h] at p; exact p
  | ok v S1 =>
    rw [h] at p
    cases v with
    | nx ρ1 => exact fun A' σ' H' e w1 env => ⟨A', S1, ρ1, w1, env, PostS.shift p e w1⟩
    | rt v => exact p
    | bk ρ1 => exact p
    | ct ρ1 => exact p
theorem ssC {st : Stmt} {rest : List Stmt} {f g : Ss} (h1 : PS X st (tS X.K f)) (h2 : PSs X rest (tS X.K g)) : PSs X (st :: rest) (tS X.K (sSeq f g)) := PSsi (pss_cons h1 h2) fun D σ H ⟨A, S, ρ, w, env, p⟩ => ⟨A, S, ρ, w, env, seq_ok w p⟩
theorem ss1 {st : Stmt} {f : Ss} (h1 : PS X st (tS X.K f)) : PSs X [st] (tS X.K f) := pss_one h1
theorem sPass : PS X (.Pass pos) (tS X.K sNil) := PSi ps_pass fun D σ H ⟨A, S, ρ, w, env, p⟩ => p A σ H .refl w env
def sBk : Ss := fun ρ S => .ok (.bk ρ) S
def sCt : Ss := fun ρ S => .ok (.ct ρ) S
theorem sBreak : PS X (.Break pos) (tS X.K sBk) := PSi ps_break fun D σ H ⟨A, S, ρ, w, env, p⟩ => p A σ H .refl w env
theorem sCont : PS X (.Continue pos) (tS X.K sCt) := PSi ps_continue fun D σ H ⟨A, S, ρ, w, env, p⟩ => p A σ H .refl w env
def sEx (f : Sx) : Ss := fun ρ S => (f ρ S).bind fun _ S1 => .ok (.nx ρ) S1
theorem sExpr (h : PE X a (tE X.K fa)) (hs : swapsWith a none pos.line X.env = pure false := by rfl) : PS X (.Expr a pos) (tS X.K (sEx fa)) := PSi (ps_expr h hs) fun D σ H ⟨A, S, ρ, w, env, p⟩ =>
  at_seq (P := PostS X.K A H D) w env p (fun h => h) (fun _ _ h => h) fun v S1 x H1 e1 w1 r1 p1 => p1 A σ H1 e1 w1 (env.mono e1)
def sRt (f : Sx) : Ss := fun ρ S => (f ρ S).bind fun v S1 => .ok (.rt v) S1
theorem sRet (h : PE X a (tE X.K fa)) : PS X (.Return (some a) pos) (tS X.K (sRt fa)) := PSi (ps_ret h) fun D σ H ⟨A, S, ρ, w, env, p⟩ => ⟨A, S, ρ, w, env, by
  show Post X.K A H D.rt (fa ρ S)
  dsimp only [sRt] at p
  cases q : fa ρ S with
  | no => rw [q] at p; exact p
  | exc e S1 => rw [q] at p; exact p
  | ok v S1 =>
    rw [q] at p
    cases v with
    | d x => exact fun v H' e w r => p A v H' e w r
    | c n => exact fun a H' e w r => p A a H' e w r
    | f k => exact fun a H' e w r => p A a H' e w r
    | z ds => exact fun v H' e w r => p A v H' e w r
    | g cs i => exact fun as a H' e w q l j => p A as a H' e w q l j
    | x => exact fun v H' e w => p A v H' e w⟩
def sRtN : Ss := fun ρ S => .ok (.rt (.d .none)) S
theorem sRetN : PS X (.Return none pos) (tS X.K sRtN) := PSi ps_retN fun D σ H ⟨A, S, ρ, w, env, p⟩ => p A .non H .refl w .non
def sIf (c : SB) (f g : Ss) : Ss := fun ρ S => (c ρ S).bind fun k S1 => if k = true then f ρ S1 else g ρ S1
theorem sIfR {c : Expr} {p q : List Stmt} {gc : SB} {f g : Ss} (hc : PT X c (tB X.K gc)) (ha : PSs X p (tS X.K f)) (hb : PSs X q (tS X.K g)) : PS X (.If c p q pos) (tS X.K (sIf gc f g)) := PSi (ps_if hc ha hb) fun D σ H ⟨A, S, ρ, w, env, p⟩ =>
  ⟨A, S, ρ, w, env, PostB.seq (P := PostS X.K A H D) p (fun h => h) (fun _ _ h => h) fun k S1 H1 e1 w1 p1 => by
    cases k with
    | true => rw [if_pos rfl] at p1 ⊢; exact ⟨A, S1, ρ, w1, env.mono e1, p1.shift e1 w1⟩
    | false => rw [if_neg Bool.false_ne_true] at p1 ⊢; exact ⟨A, S1, ρ, w1, env.mono e1, p1.shift e1 w1⟩⟩
def sSet (i : Nat) (f : Sx) : Ss := fun ρ S => (f ρ S).bind fun v S1 => .ok (.nx (ρ.set i (some v.th))) S1
def sCell (i : Nat) (f : Sx) : Ss := fun ρ S => (f ρ S).bind fun v S1 => match v with
  | .f k => .ok (.nx (ρ.set i (some (.c S1.length)))) (S1 ++ [k])
  | .g cs j => .ok (.nx (ρ.set i (some (.c (S1.length + j))))) (S1 ++ cs)
  | _ => .no
theorem set_ok {i : Nat} {f : Sx} (h : tS K (sSet i f) D σ H) : tAsg (tE K f) (gName i) D σ H := by
  obtain ⟨A, S, ρ, w, env, p⟩ := h
  exact at_seq (P := PostS K A H D) w env p (fun h => h) (fun _ _ h => h) fun v S1 x H1 e1 w1 r1 p1 => p1 A _ H1 e1 w1 ((env.mono e1).set r1)
theorem cell_ok {i : Nat} {f : Sx} (h : tS K (sCell i f) D σ H) : tAsg (tE K f) (gName i) D σ H := by
  obtain ⟨A, S, ρ, w, env, p⟩ := h
  refine ⟨A, S, ρ, w, env, ?_⟩
  show Post K A H _ (f ρ S)
  dsimp only [sCell] at p
  cases q : f ρ S with
  | no => rw [q] at p; exact p
  | exc e S1 => rw [q] at p; exact p
  | ok v S1 =>
    rw [q] at p
    cases v with
    | d x => exact p.elim
    | c n => exact p.elim
    | z ds => exact p.elim
    | x => exact p.elim
    | g cs j =>
      intro as a H' e w1 hn hl hj
      have e2 : Ext A H (A.pushs as) H' := e.grows (K := K) hn
      refine p (A.pushs as) (σ.set i (some (.ref a))) H' e2 w1 ((env.mono e2).set (v := .c (S1.length + j)) ⟨a, ?_, rfl⟩)
      have l := w1.len
      have l2 : A.A.length = S1.length := by
        simp [Wd.pushs] at l
        omega
      show (A.A ++ as)[S1.length + j]? = some a
      rw [List.getElem?_append_right (by omega), l2, Nat.add_sub_cancel_left]; exact hj
    | f k =>
      intro a H' e w1 hn
      have e2 : Ext A H (A.push a) H' := e.grow hn
      refine p (A.push a) (σ.set i (some (.ref a))) H' e2 w1 ((env.mono e2).set (v := .c S1.length) ⟨a, ?_, rfl⟩)
      show (A.A ++ [a])[S1.length]? = some a
      rw [← w1.drop1.1.len]; simp
section
variable {i : Nat} {x : Str} {pos' : Pos}
theorem sSetR (i : Nat) (hN : X.N.Nodup) (hi : X.N[i]? = some x) (hx : Loc X.env.scope x) (he : PE X a (tE X.K fa)) (hs : swapsWith a (some (.Name x pos')) pos.line X.env = pure false := by rfl)
    (hf : X.fn x = true ∨ X.env.scope.names.lookup x = some .local := by first | exact .inl rfl | exact .inr rfl | assumption) : PS X (.Assign [.Name x pos'] a pos) (tS X.K (sSet i fa)) := PSi (ps_set hN hi hx he hs hf) fun D σ H => set_ok
theorem sCellR (i : Nat) (hN : X.N.Nodup) (hi : X.N[i]? = some x) (hx : Loc X.env.scope x) (he : PE X a (tE X.K fa)) (hs : swapsWith a (some (.Name x pos')) pos.line X.env = pure false := by rfl)
    (hf : X.fn x = true ∨ X.env.scope.names.lookup x = some .local := by first | exact .inl rfl | exact .inr rfl | assumption) : PS X (.Assign [.Name x pos'] a pos) (tS X.K (sCell i fa)) := PSi (ps_set hN hi hx he hs hf) fun D σ H => cell_ok
end
def sAsg (f : Sx) (b : Bnd) : Ss := fun ρ S => (f ρ S).bind fun v S1 => match v.th with
  | .d x => match b.go x ρ with
    | some ρ1 => .ok (.nx ρ1) S1
    | none => .no
  | _ => .no
theorem sAsgR {tg : Expr} {bd : Bnd} (he : PE X a (tE X.K fa)) (hg : PG X tg (tG X.K bd)) (hs : swapsWithSole [tg] a pos.line X.env = pure false := by rfl) (hw : swappedStores [tg] a X.env = pure none := by rfl)
    (h1 : (assignEach [tg] X.env).map (·.2) = [assign tg X.env] := by rfl) : PS X (.Assign [tg] a pos) (tS X.K (sAsg fa bd)) := PSi (ps_asg he hg hs hw h1) fun D σ H ⟨A, S, ρ, w, env, p⟩ =>
  at_seq (P := PostS X.K A H D) w env p (fun h => h) (fun _ _ h => h) fun v S1 x H1 e1 w1 r1 p1 => by
    split at p1
    · rename_i y hy
      rw [hy] at r1
      split at p1
      · rename_i ρ1 h1
        exact ⟨A, ρ, y, ρ1, env.mono e1, r1, h1, fun σ' _ _ env' => p1 A σ' H1 e1 w1 env'⟩
      · exact p1.elim
    · exact p1.elim
/-- a, b = x, y of plain locals -/
def sPar (i j : Nat) (f : SA) : Ss := fun ρ S => (f ρ S).bind fun vs S1 => match vs with
  | [v, w] => .ok (.nx ((ρ.set i (some v)).set j (some w))) S1
  | _ => .no
theorem sParR (i j : Nat) {x y : Str} {f : SA} {px py pt : Pos} {kt k2 pt2} (hc : X.calm = true) (hN : X.N.Nodup) (hi : X.N[i]? = some x) (hj : X.N[j]? = some y) (hij : i ≠ j)
    (hx : X.env.scope.names.lookup x = some .local) (hy : X.env.scope.names.lookup y = some .local) (ha : PA X [a, b] (tAr X.K f)) (hs : swappedStores [.Tuple [.Name x px, .Name y py] kt pt] (.Tuple [a, b] k2 pt2) X.env = pure (some [x, y]) := by rfl) : PS X (.Assign [.Tuple [.Name x px, .Name y py] kt pt] (.Tuple [a, b] k2 pt2) pos) (tS X.K (sPar i j f)) := PSi (ps_par hc hN hi hj hij hx hy ha hs) fun D σ H ⟨A, S, ρ, w, env, p⟩ =>
  ⟨A, S, ρ, w, env, PostA.seq (P := PostS X.K A H D) p (fun h => h) (fun _ _ h => h) fun vs S1 xs H1 e1 w1 r1 p1 => by
    split at p1
    · cases r1 with | cons r1 r2 => cases r2 with | cons r2 r3 => cases r3; exact ⟨_, _, rfl, p1 A _ H1 e1 w1 (((env.mono e1).set r1).set r2)⟩
    · exact p1.elim⟩
/-! ### while -/
def sWhN (c : SB) (b : Ss) : Nat → Ss
  | 0 => fun _ _ => .no
  | n + 1 => fun ρ S => (c ρ S).bind fun k S1 => if k = true then (b ρ S1).bind fun w S2 => match w with
      | .nx ρ1 => sWhN c b n ρ1 S2
      | .ct ρ1 => sWhN c b n ρ1 S2
      | .bk ρ1 => .ok (.nx ρ1) S2
      | .rt v => .ok (.rt v) S2
    else .ok (.nx ρ) S1
theorem sWhile (n : Nat) {c : Expr} {body : List Stmt} {gc : SB} {f : Ss} (hp : PassesOwn (model X.prog X.w) X.A X.env X.xe) (hc : PT X c (tB X.K gc)) (hb : PSs X body (tS X.K f)) : PS X (.While c body [] pos) (tS X.K (sWhN gc f n)) := PSi (ps_while hp hc hb) fun D σ H h => by
  refine ⟨fun m σ H => tS X.K (sWhN gc f m) D σ H, ⟨n, h⟩, ?_⟩
  rintro m σ H ⟨A, S, ρ, w, env, p⟩
  cases m with
  | zero => exact p.elim
  | succ m =>
    refine ⟨A, S, ρ, w, env, PostB.seq (P := PostS X.K A H D) p (fun h => h) (fun _ _ h => h) fun k S1 H1 e1 w1 p1 => ?_⟩
    cases k with
    | false => exact p1 A σ H1 e1 w1 (env.mono e1)
    | true =>
      have p1 : PostS X.K A H1 D ((f ρ S1).bind fun w S2 => match w with
        | .nx ρ1 => sWhN gc f m ρ1 S2
        | .ct ρ1 => sWhN gc f m ρ1 S2
        | .bk ρ1 => .ok (.nx ρ1) S2
        | .rt v => .ok (.rt v) S2) := PostS.shift p1 e1 w1
      rw [if_pos rfl]
      refine ⟨fun σ' H' => tS X.K (sWhN gc f m) D σ' H', fun σ' H' h => ⟨m, Nat.lt_succ_self m, h⟩, A, S1, ρ, w1, env.mono e1, ?_⟩
      show PostS X.K A H1 _ (f ρ S1)
      cases q : f ρ S1 with
      | no => rw [q] at p1; exact p1
      | exc e S2 => rw [q] at p1; exact p1
      | ok v S2 =>
        rw [q] at p1
        cases v with
        | nx ρ1 => exact fun A' σ' H' e w2 env2 => ⟨A', S2, ρ1, w2, env2, PostS.shift p1 e w2⟩
        | ct ρ1 => exact fun A' σ' H' e w2 env2 => ⟨A', S2, ρ1, w2, env2, PostS.shift p1 e w2⟩
        | bk ρ1 => exact p1
        | rt v => exact p1
/-! ### for -/
structure Src where
  items : List PyData
  g : List (Nat × List PyData)
abbrev SI := Envi → Sto → Res Src
def GOk (S : Sto) (s : Src) : Prop := ∀ p ∈ s.g, S[p.1]? = some (.lst p.2)
open Classical in
noncomputable def chk {α : Type} (S : Sto) (s : Src) (r : Res α) : Res α := if GOk S s then r else .no
structure SrcW (K : Frg) (J : It) (s : Src) (B : Wd → Hp → Prop) : Prop where
  mono : ∀ A H A' H', Kx A H A' H' → B A H → B A' H'
  goes : ∀ i A S H, i < s.items.length → Wf K A S H → B A H → GOk S s → J.go i H
  stops : ∀ A S H, Wf K A S H → B A H → GOk S s → J.stop s.items.length H
  yields : ∀ i A S H x H', i < s.items.length → Wf K A S H → B A H → GOk S s → J.yld i H x H' → ∃ d, s.items[i]? = some d ∧ Ext A H A H' ∧ Wf K A S H' ∧ Rp K A.V H' x d
def PostI (K : Frg) (A : Wd) (H : Hp) (R : It → Hp → Prop) : Res Src → Prop
  | .ok s S => ∀ J B H', Ext A H A H' → Wf K A S H' → SrcW K J s B → B A H' → R J H'
  | .exc _ _ => False
  | .no => False
def tI (K : Frg) (f : SI) : TI := fun σ H R => At K σ H fun A ρ S => PostI K A H R (f ρ S)
theorem PostI.seq {β : Type} {P : Res β → Prop} {R : It → Hp → Prop} {r : Res Src} {g : Src → Sto → Res β} (h : P (r.bind g)) (h0 : P .no → False) (h1 : ∀ e S, P (.exc e S) → False)
    (k : ∀ s S1 J B H1, Ext A H A H1 → Wf K A S1 H1 → SrcW K J s B → B A H1 → P (g s S1) → R J H1) : PostI K A H R r := by
  cases r with
  | ok v S1 => exact fun J B H1 e w sw b => k v S1 J B H1 e w sw b h
  | exc e S => exact (h1 _ _ h).elim
  | no => exact (h0 h).elim
theorem chk_ok {β : Type} {P : Res β → Prop} {s : Src} {r : Res β} (h : P (chk S s r)) (h0 : P .no → False) : GOk S s ∧ P r := by
  unfold chk at h
  split at h
  · rename_i g; exact ⟨g, h⟩
  · exact (h0 h).elim
noncomputable def forGo (s : Src) (bd : Bnd) (b : Ss) : List PyData → Ss
  | [] => fun ρ S => chk S s (.ok (.nx ρ) S)
  | x :: xs => fun ρ S => chk S s (match bd.go x ρ with
    | some ρ1 => (b ρ1 S).bind fun w S2 => match w with
      | .nx ρ2 => forGo s bd b xs ρ2 S2
      | .ct ρ2 => forGo s bd b xs ρ2 S2
      | .bk ρ2 => .ok (.nx ρ2) S2
      | .rt v => .ok (.rt v) S2
    | none => .no)
noncomputable def sFo (src : SI) (bd : Bnd) (b : Ss) : Ss := fun ρ S => (src ρ S).bind fun s S1 => forGo s bd b s.items ρ S1
theorem sFor {tg iter : Expr} {body : List Stmt} {src : SI} {bd : Bnd} {f : Ss} (hp : PassesOwn (model X.prog X.w) X.A X.env X.xe) (hc : X.calm = true) (hi : PI X tg iter (tI X.K src)) (hg : PG X tg (tG X.K bd)) (hb : PSs X body (tS X.K f))
    (hs : ∀ x, foldedSetIterable iter X.env x = pure x := by intro _; rfl) : PS X (.For tg iter body [] pos) (tS X.K (sFo src bd f)) := PSi (ps_for hp hc hi hg hb hs) fun D σ H h => by
  obtain ⟨A, S, ρ, w, env, p⟩ := h
  refine ⟨A, S, ρ, w, env, PostI.seq (P := PostS X.K A H D) p (fun h => h) (fun _ _ h => h) fun s S1 J B H1 e1 w1 sw b1 p1 => ?_⟩
  refine ⟨fun i m σ H => i + m = s.items.length ∧ ∃ A S ρ, Wf X.K A S H ∧ REnv X.K A H ρ σ ∧ B A H ∧ PostS X.K A H D (forGo s bd f (s.items.drop i) ρ S), ⟨s.items.length, by simp, A, S1, ρ, w1, env.mono e1, b1, PostS.shift p1 e1 w1⟩, ?_⟩
  rintro i m σ H ⟨him, A, S, ρ, w, env, b, p⟩
  by_cases hi : i < s.items.length
  · rw [List.drop_eq_getElem_cons hi] at p
    obtain ⟨g, p⟩ := chk_ok (P := PostS X.K A H D) p fun h => h
    refine .inr ⟨sw.goes i A S H hi w b g, fun σ' H' => ∃ A S ρ, Wf X.K A S H' ∧ REnv X.K A H' ρ σ' ∧ B A H' ∧ PostS X.K A H' D (forGo s bd f (s.items.drop (i + 1)) ρ S), fun σ' H' h => ⟨m - 1, by omega, by omega, h⟩, fun x H' y => ?_⟩
    obtain ⟨d, hd, e2, w2, r2⟩ := sw.yields i A S H x H' hi w b g y
    rw [List.getElem?_eq_getElem hi] at hd
    cases hd
    split at p
    · rename_i ρ1 hρ
      refine ⟨A, ρ, _, ρ1, env.mono e2, r2, hρ, fun σ2 _ _ env2 => ⟨A, S, ρ1, w2, env2, ?_⟩⟩
      have p := PostS.shift p e2 w2
      have b2 := sw.mono _ _ _ _ e2.kx b
      show PostS X.K A H' _ (f ρ1 S)
      cases q : f ρ1 S with
      | no => rw [q] at p; exact p
      | exc e S2 => rw [q] at p; exact p
      | ok v S2 =>
        rw [q] at p
        cases v with
        | nx ρ2 => exact fun A' σ' H' e w3 env3 => ⟨A', S2, ρ2, w3, env3, sw.mono _ _ _ _ e.kx b2, PostS.shift p e w3⟩
        | ct ρ2 => exact fun A' σ' H' e w3 env3 => ⟨A', S2, ρ2, w3, env3, sw.mono _ _ _ _ e.kx b2, PostS.shift p e w3⟩
        | bk ρ2 => exact p
        | rt v => exact p
    · exact p.elim
  · have hn : i = s.items.length := by omega
    subst hn
    rw [List.drop_length] at p
    obtain ⟨g, p⟩ := chk_ok (P := PostS X.K A H D) p fun h => h
    exact .inl ⟨sw.stops A S H w b g, p A σ H .refl w env⟩
end
end MV
set_option Elab.async false
set_option linter.all false
set_option maxRecDepth 100000
/-! Readings by mirrors: comprehensions, what is walked, defs. -/
namespace MV
open PySem PySem.Spec PyProof.Rows L2
section
variable {X : Cx} {K : Frg} {a b : Expr} {fa fb : Sx} {pos : Pos} {A A' A2 : Wd} {H H' H2 : Hp} {S S' : Sto} {Q : VK} {ρ : Envi} {σ : L2.St} {D : Ends}
theorem Rv.kx {v : V} {x : Val} (e : Kx A H A' H') (r : Rv K A H v x) : Rv K A' H' v x := by
  cases x with
  | d x => exact Rp.mono e.2 r
  | c n =>
    obtain ⟨a, h, rfl⟩ := r
    obtain ⟨B, e1⟩ := e.1
    exact ⟨a, by rw [e1, List.getElem?_append_left (List.getElem?_eq_some_iff.mp h).1]; exact h, rfl⟩
  | f k => exact r
  | g cs i => exact r
  | x => exact r
  | z ds => obtain ⟨a, xs, rfl, h, t⟩ := r; exact ⟨a, xs, rfl, h.imp (fun q => e.2.rd q.1 q.2) id, t.mono e.2⟩
theorem REnv.kx (e : Kx A H A' H') (r : REnv K A H ρ σ) : REnv K A' H' ρ σ := ⟨r.len, fun i v h => by
  obtain ⟨x, h1, h2⟩ := r.get i v h
  exact ⟨x, h1, h2.kx e⟩⟩
theorem Wf.protNew {p : Addr} {u : HO} (mu : Mut (some u)) (w : Wf K A S H) (hp : H p = none) : Wf K (A.prot p) S (L2.upd H p u) ∧ Kx A H (A.prot p) (L2.upd H p u) := by
  have kp : Kp A.V H (A.prot p).V (L2.upd H p u) := kp_same fun b o h n => ⟨by rw [upd_ne (ne_of_none h hp)]; exact h, fun m => by
    rcases prot_V.mp m with m | m
    · exact n m
    · rw [m, hp] at h; cases h⟩
  refine ⟨⟨w.len, w.nd, w.lt, fun n c k h1 h2 => (w.ok n c k h1 h2).mono kp (fun u e => by rw [upd_ne (ne_of_none e hp)]; exact e) (w.lt n k h2) (fun _ _ _ h => h), fun q hq => ?_⟩, ⟨[], by simp [Wd.prot]⟩, kp⟩
  rcases List.mem_cons.mp (show q ∈ p :: A.P from hq) with m | m
  · rw [m]; exact ⟨w.offA hp, _, upd_same, mu⟩
  · obtain ⟨n, xs, e, mt⟩ := w.pr q m
    exact ⟨n, xs, by rw [upd_ne (ne_of_none e hp)]; exact e, mt⟩
theorem Wf.protUpd {p : Addr} {u : HO} (mu : Mut (some u)) (w : Wf K A S H) (hp : p ∈ A.P) : Wf K A S (L2.upd H p u) ∧ Kx A H A (L2.upd H p u) := by
  have kp : Kp A.V H A.V (L2.upd H p u) := kp_same fun b o h n => ⟨by rw [upd_ne (fun z => n (by rw [z]; exact Wd.mem.mpr (.inl hp)))]; exact h, n⟩
  refine ⟨⟨w.len, w.nd, w.lt, fun n c k h1 h2 => (w.ok n c k h1 h2).mono kp (fun u e => ?_) (w.lt n k h2) (fun _ _ _ h => h), fun q hq => ?_⟩, ⟨[], by simp⟩, kp⟩
  · rw [upd_ne (fun z => (w.pr p hp).1 (by rw [← z]; exact List.mem_of_getElem? h1))]; exact e
  · by_cases z : q = p
    · rw [z]; exact ⟨(w.pr p hp).1, _, upd_same, mu⟩
    · obtain ⟨n, ys, e, mt⟩ := w.pr q hq
      exact ⟨n, ys, by rw [upd_ne z]; exact e, mt⟩
theorem Wf.protOut {p : Addr} {k : Cell} (w : Wf K (A.prot p) S H) (hx : CellOk K (A.prot p) H p k) (hn : p ∉ A.P) (hk : k.lt S.length = true := by rfl) : Wf K (A.push p) (S ++ [k]) H := by
  have kp : Kp (A.prot p).V H (A.push p).V H := kp_less fun b m => prot_V.mpr (push_V.mp m)
  obtain ⟨npA, _⟩ := w.pr p (List.mem_cons_self)
  refine ⟨by simp [Wd.push]; exact w.len, ?_, lt_push w.lt hk, fun n c k h1 h2 => ?_, fun q hq => ?_⟩
  · show (A.A ++ [p]).Nodup
    rw [List.nodup_append]
    exact ⟨w.nd, by simp, fun x hx y hy e => by rw [List.mem_singleton.mp hy] at e; exact npA (e ▸ hx)⟩
  · have h1' : (A.A ++ [p])[n]? = some c := h1
    have hl : A.A.length = S.length := w.len
    by_cases hn : n < A.A.length
    · rw [List.getElem?_append_left hn] at h1'
      rw [List.getElem?_append_left (by rw [← hl]; exact hn)] at h2
      exact (w.ok n c k h1' h2).mono kp (fun _ h => h) (w.lt n k h2) fun j b _ h => ix_push (W := A) (m := n) j b h
    · have e2 : n = A.A.length := by
        have := (List.getElem?_eq_some_iff.mp h1').1
        simp at this
        omega
      subst e2
      rw [hl] at h2
      simp at h1' h2
      subst h1' h2
      exact hx.mono kp (fun _ h => h) hk fun j b _ h => ix_push (W := A) (m := 0) j b h
  · obtain ⟨n, y⟩ := w.pr q (List.mem_cons_of_mem _ hq)
    refine ⟨fun m => ?_, y⟩
    rcases List.mem_append.mp m with m | m
    · exact n m
    · rw [List.mem_singleton.mp m] at hq; exact hn hq

/-! ### comprehensions -/
def wipeE (ρ : Envi) (vs : List Nat) : Envi := vs.foldl (fun r i => r.set i none) ρ
theorem wipeE_length (ρ : Envi) : ∀ vs : List Nat, (wipeE ρ vs).length = ρ.length := fun vs => by
  unfold wipeE
  induction vs generalizing ρ with
  | nil => rfl
  | cons v vs ih => rw [List.foldl_cons, ih, List.length_set]
theorem wipeE_get {i : Nat} {v : Val} : ∀ {vs : List Nat} {ρ : Envi}, (wipeE ρ vs)[i]? = some (some v) → ρ[i]? = some (some v) ∧ i ∉ vs
  | [], ρ, h => ⟨h, by simp⟩
  | j :: vs, ρ, h => by
    obtain ⟨h1, h2⟩ := wipeE_get (vs := vs) (ρ := ρ.set j none) h
    by_cases e : i = j
    · subst e
      have hl : i < ρ.length := by
        have := (List.getElem?_eq_some_iff.mp h1).1
        rwa [List.length_set] at this
      rw [List.getElem?_set_self hl] at h1
      cases h1
    · rw [List.getElem?_set_ne (Ne.symm e)] at h1
      exact ⟨h1, by simp [e, h2]⟩
theorem REnv.wipe (env : REnv K A H ρ σ) (vs : List Nat) : REnv K A H (wipeE ρ vs) (wipe σ vs) := ⟨by rw [wipe_length, wipeE_length]; exact env.len, fun i v h => by
  obtain ⟨h1, h2⟩ := wipeE_get h
  obtain ⟨x, h3, h4⟩ := env.get i v h1
  have z : ∀ {vs : List Nat} {σ : L2.St}, i ∉ vs → (L2.wipe σ vs)[i]? = σ[i]? := by
    intro vs
    induction vs with
    | nil => intro σ _; rfl
    | cons j vs ih =>
      intro σ hn
      rw [List.mem_cons, not_or] at hn
      show ((L2.wipe σ vs).set j none)[i]? = _
      rw [List.getElem?_set_ne (Ne.symm hn.1)]
      exact ih hn.2
  exact ⟨x, by rw [z h2]; exact h3, h4⟩⟩
noncomputable def cGo (s : Src) (bd : Bnd) (t : SB) (e : Sx) (ρ : Envi) : List PyData → List PyData → Sto → Res (List PyData)
  | [], acc, S => chk S s (.ok acc S)
  | x :: xs, acc, S => chk S s (match bd.go x ρ with
    | some ρ1 => (t ρ1 S).bind fun k S1 => if k = true then (e ρ1 S1).bind fun v S2 => match v.th with
          | .d y => cGo s bd t e ρ xs (acc ++ [y]) S2
          | _ => .no
        else cGo s bd t e ρ xs acc S1
    | none => .no)
noncomputable def evComp (src : SI) (bd : Bnd) (t : SB) (e : Sx) (own : List Nat) : Sx := fun ρ S => (src ρ S).bind fun s S1 =>
  if s.items.length ≤ sizeLine then (cGo s bd t e (wipeE ρ own) s.items [] S1).bind fun ds S2 => .ok (.f (.lst ds)) S2 else .no
def bYes : SB := fun _ S => .ok true S
theorem wipe_back {σ σ2 : L2.St} {vs : List Nat} (hl : σ2.length = (wipe σ vs).length) (h : ∀ j, j ∉ vs → σ2[j]? = (wipe σ vs)[j]?) : wipe σ2 vs = wipe σ vs := by
  have key : ∀ (vs : List Nat) (σ : L2.St) (i : Nat), (L2.wipe σ vs)[i]? = if i ∈ vs then (if i < σ.length then some none else none) else σ[i]? := by
    intro vs
    induction vs with
    | nil => intro σ i; rfl
    | cons j vs ih =>
      intro σ i
      show ((L2.wipe σ vs).set j none)[i]? = _
      by_cases e : i = j
      · subst e
        rw [if_pos (List.mem_cons_self)]
        by_cases hi : i < σ.length
        · rw [if_pos hi, List.getElem?_set_self (by rw [wipe_length]; exact hi)]
        · rw [if_neg hi]
          exact List.getElem?_eq_none_iff.mpr (by rw [List.length_set, wipe_length]; omega)
      · rw [List.getElem?_set_ne (Ne.symm e), ih]
        simp [e]
  apply List.ext_getElem?
  intro i
  rw [key, key]
  rw [wipe_length] at hl
  by_cases hi : i ∈ vs
  · rw [if_pos hi, if_pos hi, hl]
  · rw [if_neg hi, if_neg hi, h i hi, key, if_neg hi]
theorem comp_ok {src : SI} {bd : Bnd} {t : SB} {e : Sx} {own : List Nat} (hsub : ∀ j ∈ bd.sl, j ∈ own) (h : tE K (evComp src bd t e own) σ H Q) : tLc (tI K src) (tG K bd) (tB K t) (tE K e) own σ H Q := by
  obtain ⟨A, S, ρ, w, env, p⟩ := h
  refine ⟨A, S, ρ, w, env, PostI.seq (P := Post K A H Q) p (fun h => h) (fun _ _ h => h) fun s S1 J B H1 e1 w1 sw b1 p1 => ?_⟩
  split at p1
  case isFalse => exact p1.elim
  rename_i hlen
  intro D hD
  have hDP : D ∉ A.P := fun m => w1.off hD (Wd.mem.mpr (.inl m))
  obtain ⟨wD, kD⟩ := w1.protNew (u := .lst []) trivial hD
  have envD := ((env.mono e1).wipe own).kx kD
  refine ⟨fun i m H' => i + m = s.items.length ∧ ∃ S acc xs, acc.length ≤ i ∧ Wf K (A.prot D) S H' ∧ Ext A H1 A H' ∧ H' D = some (.lst xs) ∧ RpL K (A.prot D).V H' xs acc ∧ B (A.prot D) H' ∧ REnv K (A.prot D) H' (wipeE ρ own) (wipe σ own) ∧
      Post K A H Q ((cGo s bd t e (wipeE ρ own) (s.items.drop i) acc S).bind fun ds S2 => .ok (.f (.lst ds)) S2),
    ⟨s.items.length, by simp, S1, [], [], Nat.zero_le _, wD, .laid hD, upd_same, .nil, sw.mono _ _ _ _ kD b1, envD, p1⟩, ?_⟩
  rintro i m H' ⟨him, S, acc, xs, hacc, w, ex, hx, rx, b, env, p⟩
  by_cases hi : i < s.items.length
  · rw [List.drop_eq_getElem_cons hi] at p
    have p : Post K A H Q ((chk S s (match bd.go s.items[i] (wipeE ρ own) with
      | some ρ1 => (t ρ1 S).bind fun k S1 => if k = true then (e ρ1 S1).bind fun v S2 => match v.th with
            | .d y => cGo s bd t e (wipeE ρ own) (s.items.drop (i + 1)) (acc ++ [y]) S2
            | _ => .no
          else cGo s bd t e (wipeE ρ own) (s.items.drop (i + 1)) acc S1
      | none => .no)).bind fun ds S2 => .ok (.f (.lst ds)) S2) := p
    obtain ⟨g, p⟩ := chk_ok (P := fun r => Post K A H Q (Res.bind r fun ds S2 => .ok (.f (.lst ds)) S2)) p fun h => h
    refine .inr ⟨sw.goes i (A.prot D) S H' hi w b g, fun H' => ∃ S acc xs, acc.length ≤ i + 1 ∧ Wf K (A.prot D) S H' ∧ Ext A H1 A H' ∧ H' D = some (.lst xs) ∧ RpL K (A.prot D).V H' xs acc ∧ B (A.prot D) H' ∧ REnv K (A.prot D) H' (wipeE ρ own) (wipe σ own) ∧
      Post K A H Q ((cGo s bd t e (wipeE ρ own) (s.items.drop (i + 1)) acc S).bind fun ds S2 => .ok (.f (.lst ds)) S2), fun H' h => ⟨m - 1, by omega, by omega, h⟩, fun x H'' y => ?_⟩
    obtain ⟨d, hd, e2, w2, r2⟩ := sw.yields i (A.prot D) S H' x H'' hi w b g y
    rw [List.getElem?_eq_getElem hi] at hd
    cases hd
    have toA : ∀ {H3 H4 : Hp}, Ext (A.prot D) H3 (A.prot D) H4 → Ext A H3 A H4 := fun q => ⟨rfl, ⟨[], by simp⟩, fun _ h => .inl h, fun b o h n => let ⟨o', a1, a2, a3⟩ := q.keep b o h n; ⟨o', a1, a2, fun m => a3 (List.mem_cons_of_mem _ m)⟩⟩
    have nDA : D ∉ (A.prot D).A := (w.pr D (List.mem_cons_self)).1
    split at p
    · rename_i ρ1 hρ
      refine ⟨A.prot D, wipeE ρ own, _, ρ1, env.mono e2, r2, hρ, fun σ2 hl hj env2 => ⟨wipe_back hl fun j hn => hj j fun m => hn (hsub j m), A.prot D, S, ρ1, w2, env2, ?_⟩⟩
      have p : Post K A H Q ((t ρ1 S).bind fun k S1 => (if k = true then (e ρ1 S1).bind fun v S2 => match v.th with
            | .d y => cGo s bd t e (wipeE ρ own) (s.items.drop (i + 1)) (acc ++ [y]) S2
            | _ => .no
          else cGo s bd t e (wipeE ρ own) (s.items.drop (i + 1)) acc S1).bind fun ds S2 => .ok (.f (.lst ds)) S2) := by
        cases q : t ρ1 S with
        | ok k S1 => rw [q] at p; exact p
        | exc x S1 => rw [q] at p; exact p
        | no => rw [q] at p; exact p
      refine PostB.seq (P := Post K A H Q) p (fun h => h) (fun _ _ h => h) fun k S3 H3 e3 w3 p3 => ?_
      cases k with
      | false =>
        rw [if_neg Bool.false_ne_true] at p3 ⊢
        exact ⟨S3, acc, xs, by omega, w3, ex.trans (toA (e2.trans e3)), (e2.trans e3).keepL hx nDA, rx.mono (e2.trans e3).kp, sw.mono _ _ _ _ (e2.trans e3).kx b, env.mono (e2.trans e3), p3⟩
      | true =>
        rw [if_pos rfl] at p3 ⊢
        have p3 : Post K A H Q ((e ρ1 S3).bind fun v S2 => (match v.th with
            | .d y => cGo s bd t e (wipeE ρ own) (s.items.drop (i + 1)) (acc ++ [y]) S2
            | _ => .no).bind fun ds S2 => .ok (.f (.lst ds)) S2) := by
          cases q : e ρ1 S3 with
          | ok k S1 => rw [q] at p3; exact p3
          | exc x S1 => rw [q] at p3; exact p3
          | no => rw [q] at p3; exact p3
        refine at_seq (P := Post K A H Q) w3 (env2.mono e3) p3 (fun h => h) (fun _ _ h => h) fun v S4 y H4 e4 w4 r4 p4 => ?_
        split at p4
        · rename_i yd hy
          rw [hy] at r4
          have e24 := (e2.trans e3).trans e4
          have hx4 := e24.keepL hx nDA
          obtain ⟨w5, k5⟩ := w4.protUpd (p := D) (u := .lst (xs ++ [y])) trivial (List.mem_cons_self)
          have r4 : Rp K (A.prot D).V H4 y yd := r4
          refine ⟨xs, hx4, ?_, S4, acc ++ [yd], xs ++ [y], by rw [List.length_append, List.length_singleton]; omega, w5, ?_, upd_same, ((rx.mono e24.kp).append (.cons r4 .nil)).mono k5.2, sw.mono _ _ _ _ k5 (sw.mono _ _ _ _ e24.kx b), (env.mono e24).kx k5, p4⟩
          · rw [rx.length]; omega
          · refine ⟨rfl, ⟨[], by simp⟩, fun _ h => .inl h, fun c o hc nc => ?_⟩
            rw [upd_ne (fun z => by rw [z, hD] at hc; cases hc)]
            exact (ex.trans (toA e24)).keep c o hc nc
        · exact p4.elim
    · exact p.elim
  · have hn : i = s.items.length := by omega
    subst hn
    rw [List.drop_length] at p
    obtain ⟨g, p⟩ := chk_ok (P := fun r => Post K A H Q (Res.bind r fun ds S2 => .ok (.f (.lst ds)) S2)) p fun h => h
    exact .inl ⟨sw.stops (A.prot D) S H' w b g, p D H' (e1.trans ex) (w.protOut (k := .lst _) ⟨_, hx, rx⟩ hDP) (e1.free w1 hD)⟩
end
end MV
set_option Elab.async false
set_option linter.all false
set_option maxRecDepth 100000
/-! Readings by mirrors: the rule for comprehensions, what is walked, defs. -/
namespace MV
open PySem PySem.Spec PyProof.Rows L2
section
variable {X : Cx} {K : Frg} {a b : Expr} {fa fb : Sx} {pos : Pos} {A A' A2 : Wd} {H H' H2 : Hp} {S S' : Sto} {Q : VK} {ρ : Envi} {σ : L2.St} {D : Ends}
theorem PTsi {e : List Expr} {t t' : TT} (h : PTs X e t) (i : ∀ σ H Q, t' σ H Q → t σ H Q) : PTs X e t' := ⟨fun pins s σ H Q I q => h.run pins s σ H Q I (i σ H Q q)⟩
theorem PIi {tg it : Expr} {t t' : TI} (h : PI X tg it t) (i : ∀ σ H R, t' σ H R → t σ H R) : PI X tg it t' := ⟨fun pins s σ H R I q => h.run pins s σ H R I (i σ H R q)⟩
theorem tsN : PTs X [] (tB X.K bYes) := PTsi pts_nil fun σ H Q ⟨A, S, ρ, w, env, p⟩ => p H .refl w
theorem ts1 {c : Expr} {g : SB} (h : PT X c (tB X.K g)) : PTs X [c] (tB X.K g) := pts_one h
section
variable {elt tg iter : Expr} {ifs : List Expr} {scope : Scope} {own : List (Str × Nat)} {src : SI} {bd : Bnd} {t : SB} {e : Sx}
theorem eComp (hc : X.calm = true) (hN : X.N.Nodup) (hi : PI X tg iter (tI X.K src)) (ok : BlkOk X.N X.env.scope scope own) (hsub : ∀ j ∈ bd.sl, j ∈ own.map (·.2))
    (hg : ∀ (s : Shared) (H : Hp) (C : Addr) (cl : List (Str × Addr)) (fp : List Addr), PG (X.blk s H scope (compEnvC scope cl C X.env) fp) tg (tG X.K bd)) (ht : ∀ (s : Shared) (H : Hp) (C : Addr) (cl : List (Str × Addr)) (fp : List Addr), PTs (X.blk s H scope (compEnvC scope cl C X.env) fp) ifs (tB X.K t))
    (he : ∀ (s : Shared) (H : Hp) (C : Addr) (cl : List (Str × Addr)) (fp : List Addr), PE (X.blk s H scope (compEnvC scope cl C X.env) fp) elt (tE X.K e)) (hs : ∀ x, foldedSetIterable iter X.env x = pure x := by intro _; rfl) :
    PE X (.ListComp elt [⟨tg, iter, ifs, 0⟩] scope pos) (tE X.K (evComp src bd t e (own.map (·.2)))) := PEi (pe_lc hc hN hi ok hg ht he hs) fun σ H Q => comp_ok hsub
section
variable {i : Nat} {y : Str} {py spos : Pos}
theorem sSetLc (i : Nat) (hc : X.calm = true) (hN : X.N.Nodup) (hy : X.N[i]? = some y) (hyl : X.env.scope.names.lookup y = some .local) (hsw : swapsWith (.ListComp elt [⟨tg, iter, ifs, 0⟩] scope pos) (some (.Name y py)) spos.line X.env = pure true)
    (hi : PI X tg iter (tI X.K src)) (ok : BlkOk X.N X.env.scope scope own) (hsub : ∀ j ∈ bd.sl, j ∈ own.map (·.2))
    (hg : ∀ (s : Shared) (H : Hp) (C : Addr) (cl : List (Str × Addr)) (fp : List Addr), PG (X.blk s H scope (compEnvC scope cl C X.env) fp) tg (tG X.K bd)) (ht : ∀ (s : Shared) (H : Hp) (C : Addr) (cl : List (Str × Addr)) (fp : List Addr), PTs (X.blk s H scope (compEnvC scope cl C X.env) fp) ifs (tB X.K t))
    (he : ∀ (s : Shared) (H : Hp) (C : Addr) (cl : List (Str × Addr)) (fp : List Addr), PE (X.blk s H scope (compEnvC scope cl C X.env) fp) elt (tE X.K e)) (hs : ∀ x, foldedSetIterable iter X.env x = pure x := by intro _; rfl) :
    PS X (.Assign [.Name y py] (.ListComp elt [⟨tg, iter, ifs, 0⟩] scope pos) spos) (tS X.K (sSet i (evComp src bd t e (own.map (·.2))))) := PSi (ps_setLc hc hN hy hyl hsw hi ok hg ht he hs) fun D σ H h => comp_ok hsub (set_ok h)
theorem sCellLc (i : Nat) (hc : X.calm = true) (hN : X.N.Nodup) (hy : X.N[i]? = some y) (hyl : X.env.scope.names.lookup y = some .local) (hsw : swapsWith (.ListComp elt [⟨tg, iter, ifs, 0⟩] scope pos) (some (.Name y py)) spos.line X.env = pure true)
    (hi : PI X tg iter (tI X.K src)) (ok : BlkOk X.N X.env.scope scope own) (hsub : ∀ j ∈ bd.sl, j ∈ own.map (·.2))
    (hg : ∀ (s : Shared) (H : Hp) (C : Addr) (cl : List (Str × Addr)) (fp : List Addr), PG (X.blk s H scope (compEnvC scope cl C X.env) fp) tg (tG X.K bd)) (ht : ∀ (s : Shared) (H : Hp) (C : Addr) (cl : List (Str × Addr)) (fp : List Addr), PTs (X.blk s H scope (compEnvC scope cl C X.env) fp) ifs (tB X.K t))
    (he : ∀ (s : Shared) (H : Hp) (C : Addr) (cl : List (Str × Addr)) (fp : List Addr), PE (X.blk s H scope (compEnvC scope cl C X.env) fp) elt (tE X.K e)) (hs : ∀ x, foldedSetIterable iter X.env x = pure x := by intro _; rfl) :
    PS X (.Assign [.Name y py] (.ListComp elt [⟨tg, iter, ifs, 0⟩] scope pos) spos) (tS X.K (sCell i (evComp src bd t e (own.map (·.2))))) := PSi (ps_setLc hc hN hy hyl hsw hi ok hg ht he hs) fun D σ H h => comp_ok hsub (cell_ok h)
end
end

/-! ### rows of things -/
def seqOf (S : Sto) : Val → Option (Bool × List PyData × List (Nat × List PyData))
  | .d (.tuple ds) => some (true, ds, [])
  | .d (.list ds) => some (false, ds, [])
  | .z ds => some (false, ds, [])
  | .c n => match S[n]? with
    | some (.lst ds) => some (false, ds, [(n, ds)])
    | _ => none
  | _ => none
def SqA (K : Frg) (t : Bool) (H : Hp) (a : Addr) (xs : List V) : Prop := if t = true then SqT K H a xs else SqL K H a xs
theorem seq_stand {x : V} {v : Val} {S0 : Sto} {t : Bool} {ds : List PyData} {g : List (Nat × List PyData)} (h : seqOf S0 v = some (t, ds, g)) (w : Wf K A S H) (r : Rv K A H x v) (hg : ∀ p ∈ g, S[p.1]? = some (.lst p.2)) :
    ∃ a xs, x = .ref a ∧ RpL K A.V H xs ds ∧ SqA K t H a xs := by
  cases v with
  | f k => cases h
  | g cs i => cases h
  | x => cases h
  | d y =>
    cases y with
    | tuple es =>
      cases h
      have r' : Rp K A.V H x (.tuple ds) := r
      cases r' with | tup l q => exact ⟨_, _, rfl, q, l.seq⟩
    | list es =>
      cases h
      have r' : Rp K A.V H x (.list ds) := r
      cases r' with | lst l q => exact ⟨_, _, rfl, q, l.seq⟩
    | _ => cases h
  | z es =>
    cases h
    obtain ⟨a, xs, rfl, h1, q⟩ := r
    exact ⟨a, xs, rfl, q, h1.elim (fun z => .inl z.1) klst_seq⟩
  | c n =>
    have h : (match S0[n]? with
      | some (.lst es) => some (false, es, [(n, es)])
      | _ => none) = some (t, ds, g) := h
    split at h
    · rename_i es q
      cases h
      have e := hg (n, ds) (by simp)
      obtain ⟨a, h1, rfl⟩ := r
      obtain ⟨xs, h2, h3⟩ := w.ok n a _ h1 e
      exact ⟨a, xs, rfl, h3, .inl (.inl h2)⟩
    · cases h
theorem seq_now {v : Val} {t : Bool} {ds : List PyData} {g : List (Nat × List PyData)} (h : seqOf S v = some (t, ds, g)) : ∀ p ∈ g, S[p.1]? = some (.lst p.2) := by
  cases v with
  | f k => cases h
  | g cs i => cases h
  | x => cases h
  | d y => cases y <;> first | (cases h; done) | (cases h; simp)
  | z es => cases h; simp
  | c n =>
    have h : (match S[n]? with
      | some (.lst es) => some (false, es, [(n, es)])
      | _ => none) = some (t, ds, g) := h
    split at h
    · rename_i es q
      cases h
      simpa using q
    · cases h
theorem seq_at {x : V} {v : Val} {t : Bool} {ds : List PyData} {g : List (Nat × List PyData)} (h : seqOf S v = some (t, ds, g)) (w : Wf K A S H) (r : Rv K A H x v) : ∃ a xs, x = .ref a ∧ RpL K A.V H xs ds ∧ SqA K t H a xs := seq_stand h w r (seq_now h)

/-! ### what is walked: a row -/
theorem src_list {v : Val} {S0 : Sto} {ds : List PyData} {g : List (Nat × List PyData)} {a : Addr} (h : seqOf S0 v = some (false, ds, g)) : SrcW K (Itl K a) ⟨ds, g⟩ (fun A H => Rv K A H (.ref a) v) where
  mono := fun A H A' H' e r => r.kx e
  goes := fun i A S H hi w r gk => by
    obtain ⟨b, xs, eb, q, sq⟩ := seq_stand h w r gk
    cases eb
    obtain ⟨y, hy, _⟩ := q.get (List.getElem?_eq_getElem hi)
    exact ⟨xs, y, sq, hy⟩
  stops := fun A S H w r gk => by
    obtain ⟨b, xs, eb, q, sq⟩ := seq_stand h w r gk
    cases eb
    exact ⟨xs, sq, Nat.le_of_eq q.length⟩
  yields := fun i A S H x H' hi w r gk y => by
    obtain ⟨b, xs, eb, q, sq⟩ := seq_stand h w r gk
    cases eb
    obtain ⟨rfl, y⟩ := y
    obtain ⟨d, hd, rd⟩ := q.getV (y xs sq)
    exact ⟨d, hd, .refl, w, rd⟩
theorem src_tup {v : Val} {S0 : Sto} {ds : List PyData} {g : List (Nat × List PyData)} {a : Addr} (h : seqOf S0 v = some (true, ds, g)) : SrcW K (Itt K a) ⟨ds, g⟩ (fun A H => Rv K A H (.ref a) v) where
  mono := fun A H A' H' e r => r.kx e
  goes := fun i A S H hi w r gk => by
    obtain ⟨b, xs, eb, q, sq⟩ := seq_stand h w r gk
    cases eb
    obtain ⟨y, hy, _⟩ := q.get (List.getElem?_eq_getElem hi)
    exact ⟨xs, y, sq, hy⟩
  stops := fun A S H w r gk => by
    obtain ⟨b, xs, eb, q, sq⟩ := seq_stand h w r gk
    cases eb
    exact ⟨xs, sq, Nat.le_of_eq q.length⟩
  yields := fun i A S H x H' hi w r gk y => by
    obtain ⟨b, xs, eb, q, sq⟩ := seq_stand h w r gk
    cases eb
    obtain ⟨rfl, y⟩ := y
    obtain ⟨d, hd, rd⟩ := q.getV (y xs sq)
    exact ⟨d, hd, .refl, w, rd⟩
def iSeq (f : Sx) : SI := fun ρ S => (f ρ S).bind fun v S1 => match seqOf S1 v.th with
  | some (_, ds, g) => .ok ⟨ds, g⟩ S1
  | none => .no
theorem one_fp {pins : List (Addr × Obj)} {s : Shared} (I : Inv X pins σ H s) : ∀ b ∈ [s.heap.objs.size], FpOk X pins H b := fun b hb => by
  rw [List.mem_singleton.mp hb]
  exact I.fpOk (Nat.le_refl _) (I.hok.fresh (Nat.le_refl _))
theorem iS {tg l : Expr} {f : Sx} (hl : PE X l (tE X.K f)) : PI X tg l (tI X.K (iSeq f)) := ⟨fun pins s σ H R I h => by
  obtain ⟨A, S, ρ, w, env, p⟩ := h
  refine thn (hl.run pins s σ H (fun x H1 => ∃ a S1 v t ds g, x = .ref a ∧ Wf X.K A S1 H1 ∧ Rv X.K A H1 (.ref a) v ∧ seqOf S1 v = some (t, ds, g) ∧ ∀ J B, SrcW X.K J ⟨ds, g⟩ B → B A H1 → R J H1) I ⟨A, S, ρ, w, env, ?_⟩) fun v s1 ⟨x, H1, I1, r1, a, S1, u, t, ds, g, ex, w1, ru, hq, q⟩ => ?_
  · refine Post.seq (P := PostI X.K A H R) p (fun h => h) (fun _ _ h => h) fun v S1 x H1 e1 w1 r1 p1 => ?_
    split at p1
    · rename_i t ds g hq
      obtain ⟨a, xs, rfl, _, _⟩ := seq_at hq w1 r1
      exact ⟨a, S1, v.th, t, ds, g, rfl, w1, r1, hq, fun J B sw b => p1 J B H1 e1 w1 sw b⟩
    · exact p1.elim
  · subst ex
    cases r1
    obtain ⟨b, xs, eb, _, sq⟩ := seq_at hq w1 ru
    cases eb
    cases t with
    | true =>
      obtain ⟨its, rv, ht, hz⟩ := I1.tuple (show SqT X.K H1 a xs from sq)
      refine wpAny_pyIter_tuple (show s1.heap.IsTuple a its.toArray from ht) ⟨s1.heap.objs.size, [s1.heap.objs.size], _, _, H1, rfl, ?_, turn_tuple a _, ⟨_, Heap.get?_push_size _ rfl, rfl, rfl⟩, one_fp I1, q _ _ (src_tup hq) ru⟩
      exact I1.kept (t' := s1.toks) fun b o e => Heap.get?_push_of_some _ e
    | false =>
      obtain ⟨its, rv, pl, hz⟩ := I1.list (show SqL X.K H1 a xs from sq)
      refine wpAny_pyIter_list pl.isList ⟨s1.heap.objs.size, [s1.heap.objs.size], _, _, H1, rfl, ?_, turn_list a _, ⟨_, Heap.get?_push_size _ rfl, rfl, rfl⟩, one_fp I1, q _ _ (src_list hq) ru⟩
      exact I1.kept (t' := s1.toks) fun b o e => Heap.get?_push_of_some _ e⟩

/-! ### .. a range -/
def iota (lo : Int) (n : Nat) : List PyData := (List.range n).map fun (i : Nat) => .int (lo + i)
theorem iota_length (lo : Int) (n : Nat) : (iota lo n).length = n := by simp [iota]
theorem iota_get {lo : Int} {n i : Nat} (h : i < n) : (iota lo n)[i]? = some (.int (lo + i)) := by simp [iota, h]
theorem src_range {lo : Int} {n : Nat} : SrcW K (Itr lo n) ⟨iota lo n, []⟩ (fun _ _ => True) where
  mono := fun _ _ _ _ _ _ => trivial
  goes := fun i A S H hi w _ _ => by rw [iota_length] at hi; exact hi
  stops := fun A S H w _ _ => by rw [iota_length]; exact Nat.le_refl _
  yields := fun i A S H x H' hi w _ _ y => by
    obtain ⟨rfl, rfl⟩ := y
    rw [iota_length] at hi
    exact ⟨_, iota_get hi, .refl, w, .int _⟩
def gRange1 : List Val → Option Src
  | [.d (.int j)] => if -(2 ^ 62) ≤ j ∧ j < 2 ^ 62 then some ⟨iota 0 j.toNat, []⟩ else none
  | _ => none
def gRange2 : List Val → Option Src
  | [.d (.int i), .d (.int j)] => if -(2 ^ 62) ≤ i ∧ i < 2 ^ 62 ∧ -(2 ^ 62) ≤ j ∧ j < 2 ^ 62 then some ⟨iota i (j - i).toNat, []⟩ else none
  | _ => none
def iBy (g : List Val → Option Src) (f : SA) : SI := fun ρ S => (f ρ S).bind fun vs S1 => match g vs with
  | some s => .ok s S1
  | none => .no
theorem iR1 {tg e : Expr} {f : SA} {p : Pos} (hg : Gl X "range") (hm : X.mg "range" = none) (ha : PA X [e] (tAr X.K f)) (hs : starEach [e] X.env = [(false, eval e X.env)] := by rfl) : PI X tg (.Call (.Name "range" p) [e] [] pos) (tI X.K (iBy gRange1 f)) :=
  PIi (pi_range1 hg hm ha hs) fun σ H R ⟨A, S, ρ, w, env, p⟩ => ⟨A, S, ρ, w, env, PostA.seq (P := PostI X.K A H R) p (fun h => h) (fun _ _ h => h) fun vs S1 xs H1 e1 w1 r1 p1 => by
    split at p1
    · rename_i s hs
      unfold gRange1 at hs
      split at hs
      · split at hs
        · rename_i c
          cases hs
          cases r1 with | cons q r1 => cases r1; cases q; exact ⟨_, rfl, c.1, c.2, p1 _ _ H1 e1 w1 src_range trivial⟩
        · cases hs
      · cases hs
    · exact p1.elim⟩
theorem iR2 {tg e e2 : Expr} {f : SA} {p : Pos} (hg : Gl X "range") (hm : X.mg "range" = none) (ha : PA X [e, e2] (tAr X.K f)) (hs : starEach [e, e2] X.env = [(false, eval e X.env), (false, eval e2 X.env)] := by rfl) (hs2 : starEach [e2] X.env = [(false, eval e2 X.env)] := by rfl) :
    PI X tg (.Call (.Name "range" p) [e, e2] [] pos) (tI X.K (iBy gRange2 f)) :=
  PIi (pi_range2 hg hm ha hs hs2) fun σ H R ⟨A, S, ρ, w, env, p⟩ => ⟨A, S, ρ, w, env, PostA.seq (P := PostI X.K A H R) p (fun h => h) (fun _ _ h => h) fun vs S1 xs H1 e1 w1 r1 p1 => by
    split at p1
    · rename_i s hs
      unfold gRange2 at hs
      split at hs
      · split at hs
        · rename_i c
          cases hs
          cases r1 with | cons q r1 => cases r1 with | cons q2 r1 => cases r1; cases q; cases q2; exact ⟨_, _, rfl, c, p1 _ _ H1 e1 w1 src_range trivial⟩
        · cases hs
      · cases hs
    · exact p1.elim⟩

/-! ### defs -/
def out (n : Nat) (S : Sto) : Val → Res Val
  | .c j => if j < n then .ok (.c j) (S.take n) else match S[j]? with
    | some k => if k.lt n = true then .ok (.f k) (S.take n) else .ok (.g (S.drop n) (j - n)) (S.take n)
    | none => .no
  | .f k => if k.lt n = true then .ok (.f k) (S.take n) else .ok (.g (S.drop n ++ [k]) (S.length - n)) (S.take n)
  | .g cs i => .ok (.g (S.drop n ++ cs) (S.length - n + i)) (S.take n)
  | v => .ok v (S.take n)
theorem Ext.fresh {W W' : Wd} {H H' : Hp} (e : Ext W H W' H') (nd : W'.A.Nodup) : ∃ B, W' = W.pushs B ∧ ∀ b ∈ B, H b = none := by
  obtain ⟨B, h1⟩ := e.pre
  refine ⟨B, ?_, fun b hb => ?_⟩
  · cases W'
    have h2 := e.pr
    dsimp only at h1 h2
    subst h1 h2
    rfl
  · rcases e.new b (by rw [h1]; exact List.mem_append_right _ hb) with q | q
    · rw [h1, List.nodup_append] at nd
      exact (nd.2.2 b q b hb rfl).elim
    · exact q
def mkFn (np N : Nat) (body : Ss) : Fn := fun vs S => if vs.length = np then (body (vs.map some ++ List.replicate (N - np) none) S).bind fun w S1 => match w with
    | .nx _ => .ok (.d .none) (S1.take S.length)
    | .rt v => out S.length S1 v
    | _ => .no
  else .no
theorem fn_ok {P : Program} {w : World} {mg : Str → Option Value} {base : Heap} {x qual : Str} {st : Stmt} {f : Addr} {fd : FuncData} {N ps : List Str} {k np : Nat} {body : Ss} (F : Fun K x qual st f fd) (S : FnScope N ps (defScope st)) (hnp : ps.length = np)
    (h : ∀ (cdv : Value) (A : Around) (outer : List PySem.Env) (s : Shared) (H : Hp) (E : XK), Room k (A.deeper (envOfC qual (defScope st) s.heap.objs.size f cdv)) → A.guards = some [] → PSs (cxOf CX0 P w K mg base N qual (defScope st) f cdv A outer s H E).nox (defBody st) (tS K body)) :
    FnG P w K mg base (k + 1) f fd ps (spF K (mkFn np N.length body)) := by
  refine fnG_of F S (fun xs H Q E h => ?_) (fun cdv A outer s H xs Q E hr gd hp => ⟨_, h cdv A outer s H E hr gd, ?_⟩)
  · obtain ⟨A, S, vs, _, r, p⟩ := h
    unfold mkFn at p
    split at p
    · rename_i hl
      rw [Paired.length r, hl, hnp]
    · exact p.elim
  · obtain ⟨A, St, vs, w, r, p⟩ := hp
    unfold mkFn at p
    split at p
    case isFalse => exact p.elim
    rename_i hl
    have hxl : xs.length = np := (Paired.length r).trans hl
    show tS K body _ (L2.start N xs) H
    refine ⟨A, St, vs.map some ++ List.replicate (N.length - np) none, w, ?_, ?_⟩
    · refine ⟨by simp [L2.start, hxl, hl], fun i v hi => ?_⟩
      by_cases c : i < vs.length
      · rw [List.getElem?_append_left (by rw [List.length_map]; exact c), List.getElem?_map, List.getElem?_eq_getElem c] at hi
        simp at hi
        subst hi
        have z : ∀ {xs : List V} {vs : List Val} {i : Nat} (c : i < vs.length), RvL K A H xs vs → ∃ x, xs[i]? = some x ∧ Rv K A H x vs[i] := by
          intro xs vs i c r
          induction r generalizing i with
          | nil => simp at c
          | cons h t ih =>
            cases i with
            | zero => exact ⟨_, rfl, h⟩
            | succ i => exact ih (i := i) (by simpa using c)
        obtain ⟨y, h1, h2⟩ := z c r
        refine ⟨y, ?_, h2⟩
        unfold L2.start
        rw [List.getElem?_append_left (by rw [List.length_map, hxl, ← hl]; exact c), List.getElem?_map, h1]; rfl
      · rw [List.getElem?_append_right (by rw [List.length_map]; omega)] at hi
        have := List.mem_of_getElem? hi
        simp at this
    · show PostS K A H { nx := fun _ H' => Q .non H', rt := Q } (body (vs.map some ++ List.replicate (N.length - np) none) St)
      generalize hr : body (vs.map some ++ List.replicate (N.length - np) none) St = r at p ⊢
      cases r with
      | no => exact p
      | exc e S1 => exact p
      | ok v S1 =>
        have hsl : ∀ {A' H'}, Ext A H A' H' → Wf K A' S1 H' → Wf K A (S1.take St.length) H' := fun e w1 => by
          rw [← w.len]; exact w1.less e
        cases v with
        | nx ρ1 => exact fun A' σ' H' e w1 _ => p .non H' (Ext.less (B := []) e) (hsl e w1) .non
        | bk ρ1 => exact p.elim
        | ct ρ1 => exact p.elim
        | rt v =>
          have p : Post K A H Q (out St.length S1 v) := p
          have lessV : ∀ {A' : Wd} {H' : Hp}, Ext A H A' H' → ∀ b, b ∈ A.V → b ∈ A'.V := fun {A' H'} e b m => by
            rw [Wd.mem] at m ⊢
            obtain ⟨B, h1⟩ := e.pre
            rw [e.pr, h1]
            exact m.imp id fun m => List.mem_append_left _ m
          have lessRp : ∀ {A' : Wd} {H' : Hp} {v : V} {d : PyData}, Ext A H A' H' → Rp K A'.V H' v d → Rp K A.V H' v d := fun {A' H' v d} e r => r.mono (kp_less (lessV e))
          cases v with
          | d x => exact fun A' v H' e w1 r => p v H' (Ext.less (B := []) e) (hsl e w1) (lessRp e r)
          | z ds =>
            intro A' v H' e w1 r
            obtain ⟨a, ys, rfl, h1, t1⟩ := r
            exact p _ H' (Ext.less (B := []) e) (hsl e w1) ⟨a, ys, rfl, h1.imp (fun q => ⟨q.1, fun m => q.2 (lessV e a m)⟩) id, t1.mono (kp_less (lessV e))⟩
          | x => exact fun A' v H' e w1 => p v H' (Ext.less (B := []) e) (hsl e w1)
          | g cs i =>
            intro A' as a H' e w1 hn hl hi
            obtain ⟨B, rfl, hB⟩ := e.fresh (by have := w1.nd; exact (List.nodup_append.mp this).1)
            have p : Post K A H Q (.ok (.g (S1.drop St.length ++ cs) (S1.length - St.length + i)) (S1.take St.length)) := p
            have l1 := w.len
            have l2 := w1.len
            simp [Wd.pushs] at l2
            refine p (B ++ as) a H' (Ext.less (B := []) e) ?_ (fun b hb => ?_) (by simp; omega) ?_
            · rw [← List.append_assoc, List.take_append_drop]
              have e2 : (A.pushs B).pushs as = A.pushs (B ++ as) := by simp [Wd.pushs]
              rw [← e2]; exact w1
            · rcases List.mem_append.mp hb with m | m
              · exact hB b m
              · exact hn b m
            · rw [List.getElem?_append_right (by omega)]
              rw [show S1.length - St.length + i - B.length = i by omega]; exact hi
          | f k =>
            intro A' a H' e w1 hn
            have p : Post K A H Q (if k.lt St.length = true then .ok (.f k) (S1.take St.length) else .ok (.g (S1.drop St.length ++ [k]) (S1.length - St.length)) (S1.take St.length)) := p
            obtain ⟨w2, c, na⟩ := w1.drop1
            have e2 : Ext A H (A'.push a) H' := by
              refine ⟨e.pr, ?_, fun b m => ?_, e.keep⟩
              · obtain ⟨B, h1⟩ := e.pre
                exact ⟨B ++ [a], by show A'.A ++ [a] = _; rw [h1, List.append_assoc]⟩
              · rcases List.mem_append.mp m with m | m
                · exact e.new b m
                · rw [List.mem_singleton.mp m]; exact .inr hn
            by_cases hk : k.lt St.length = true
            · rw [if_pos hk] at p
              have hp := w1.pick (j := A'.A.length) (a := a) (k := k) e2 (by obtain ⟨B, h1⟩ := e.pre; rw [h1]; simp) (by simp [Wd.push]) (by rw [w2.len]; simp) (by rw [w.len]; exact hk)
              refine p a H' (Ext.less (B := []) e) ?_ hn
              have q := hp.1
              have hle : A.A.length ≤ S1.length := by rw [← w2.len]; obtain ⟨B, h1⟩ := e.pre; rw [h1]; simp
              rw [List.take_append_of_le_length hle, w.len] at q
              exact q
            · rw [if_neg hk] at p
              obtain ⟨B, rfl, hB⟩ := e.fresh w2.nd
              have l1 := w.len
              have l2 := w2.len
              simp [Wd.pushs] at l2
              refine p (B ++ [a]) a H' (Ext.less (B := []) e) ?_ (fun b hb => ?_) (by simp; omega) ?_
              · rw [← List.append_assoc, List.take_append_drop]
                have e3 : (A.pushs B).push a = A.pushs (B ++ [a]) := by simp [Wd.pushs, Wd.push]
                rw [← e3]; exact w1
              · rcases List.mem_append.mp hb with m | m
                · exact hB b m
                · rw [List.mem_singleton.mp m]; exact hn
              · rw [List.getElem?_append_right (by omega)]
                rw [show S1.length - St.length - B.length = 0 by omega]; rfl
          | c j =>
            intro A' a H' e w1 hj
            have p : Post K A H Q (if j < St.length then .ok (.c j) (S1.take St.length) else match S1[j]? with
              | some k => if k.lt St.length = true then .ok (.f k) (S1.take St.length) else .ok (.g (S1.drop St.length) (j - St.length)) (S1.take St.length)
              | none => .no) := p
            by_cases hjn : j < St.length
            · rw [if_pos hjn] at p
              refine p a H' (Ext.less (B := []) e) (hsl e w1) ?_
              obtain ⟨B, h1⟩ := e.pre
              rw [h1, List.getElem?_append_left (by rw [w.len]; exact hjn)] at hj
              exact hj
            · rw [if_neg hjn] at p
              split at p
              · rename_i k hk
                by_cases hlk : k.lt St.length = true
                · rw [if_pos hlk] at p
                  have hp := w1.pick (j := j) (a := a) (k := k) e (by rw [w.len]; omega) hj hk (by rw [w.len]; exact hlk)
                  have q := hp.1
                  rw [w.len] at q
                  exact p a H' (Ext.less (B := []) e) q hp.2
                · rw [if_neg hlk] at p
                  obtain ⟨B, rfl, hB⟩ := e.fresh w1.nd
                  have l1 := w.len
                  have l2 := w1.len
                  simp [Wd.pushs] at l2
                  refine p B a H' (Ext.less (B := []) e) ?_ hB (by simp; omega) ?_
                  · rw [List.take_append_drop]; exact w1
                  · have hj : (A.A ++ B)[j]? = some a := hj
                    rw [List.getElem?_append_right (by omega), l1] at hj; exact hj
              · exact p.elim
end
end MV
set_option Elab.async false
set_option linter.all false
set_option maxRecDepth 100000
/-! Readings by mirrors: operators, subscripts, slices. -/
namespace MV
open PySem PySem.Spec PyProof.Rows L2
section
variable {X : Cx} {K : Frg} {a b : Expr} {fa fb : Sx} {pos : Pos} {A A' A2 : Wd} {H H' H2 : Hp} {S S' : Sto} {Q : VK} {ρ : Envi} {σ : L2.St} {D : Ends}
/-! ### views -/
def asL (S : Sto) : Val → Option (List PyData)
  | .d (.list ds) => some ds
  | .c n => match S[n]? with
    | some (.lst ds) => some ds
    | _ => none
  | _ => none
theorem asL_ok {x : V} {v : Val} {ds : List PyData} (w : Wf K A S H) (r : Rv K A H x v) (h : asL S v = some ds) : ∃ a xs, x = .ref a ∧ H a = some (.lst xs) ∧ RpL K A.V H xs ds := by
  cases v with
  | f k => cases h
  | g cs i => cases h
  | x => cases h
  | z es => cases h
  | d y =>
    cases y with
    | list es =>
      cases h
      have r' : Rp K A.V H x (.list ds) := r
      cases r' with | lst l q => exact ⟨_, _, rfl, l.1, q⟩
    | _ => cases h
  | c n =>
    have h : (match S[n]? with
      | some (.lst es) => some es
      | _ => none) = some ds := h
    split at h
    · rename_i es q
      cases h
      obtain ⟨a, h1, rfl⟩ := r
      obtain ⟨xs, h2, h3⟩ := w.ok n a _ h1 q
      exact ⟨a, xs, rfl, h2, h3⟩
    · cases h
/-- as a datum -/
def asD (S : Sto) : Val → Option PyData
  | .d x => some x
  | .z ds => some (.list ds)
  | .c n => match S[n]? with
    | some (.lst ds) => some (.list ds)
    | _ => none
  | _ => none
theorem asD_dp {x : V} {v : Val} {y : PyData} (w : Wf K A S H) (r : Rv K A H x v) (h : asD S v = some y) (c : y.canLay0 = true) : Dp K H x y := by
  cases v with
  | f k => cases h
  | g cs i => cases h
  | x => cases h
  | d z => cases h; exact Rp.dp _ _ c r
  | z ds =>
    cases h
    obtain ⟨a, xs, rfl, h1, t⟩ := r
    exact .lst (h1.elim (fun z => .inl z.1) klst_seq) (RpL.dp _ _ (by simpa [PyData.canLay0] using c) t)
  | c n =>
    have h : (match S[n]? with
      | some (.lst es) => some (.list es)
      | _ => none) = some y := h
    split at h
    · rename_i es q
      cases h
      obtain ⟨a, h1, rfl⟩ := r
      obtain ⟨xs, h2, h3⟩ := w.ok n a _ h1 q
      exact .lst (.inl (.inl h2)) (RpL.dp _ _ (by simpa [PyData.canLay0] using c) h3)
    · cases h

/-! ### whole numbers -/
def gInt (C : Int → Int → Bool) (g : Int → Int → PyData) : Val → Val → Sto → Res Val
  | .d (.int i), .d (.int j), S => if C i j = true then .ok (.d (g i j)) S else .no
  | _, _, _ => .no
theorem Rp.int_inv {L : List Addr} {x : V} {i : Int} (r : Rp K L H x (.int i)) : x = .int i := by cases r; rfl
theorem Rp.str_inv {L : List Addr} {x : V} {i : Str} (r : Rp K L H x (.str i)) : x = .str i := by cases r; rfl
theorem Rp.bl_inv {L : List Addr} {x : V} {i : Bool} (r : Rp K L H x (.bool i)) : x = .bl i := by cases r; rfl
theorem oInt {f : Value → Value → Sem Value} {C : Int → Int → Prop} {Cb : Int → Int → Bool} {g : Int → Int → V} {gd : Int → Int → PyData} (h : OpR X f (rI C g)) (hC : ∀ i j, Cb i j = true → C i j) (hg : ∀ i j L H, Rp X.K L H (g i j) (gd i j)) : ORul X f (gInt Cb gd) := by
  intro pins s σ A S H x y u u' v w Q I wf rv rw ru ru' p
  unfold gInt at p
  split at p
  · split at p
    · rename_i c
      exact h pins s σ H x y u u' Q I ru ru' ⟨_, _, Rp.int_inv rv, Rp.int_inv rw, hC _ _ c, p _ H .refl wf (hg _ _ _ _)⟩
    · exact p.elim
  · exact p.elim
theorem oInt0 {f : Value → Value → Sem Value} {g : Int → Int → V} {gd : Int → Int → PyData} (h : OpR X f (rI0 g)) (hg : ∀ i j L H, Rp X.K L H (g i j) (gd i j)) : ORul X f (gInt (fun _ _ => true) gd) := by
  intro pins s σ A S H x y u u' v w Q I wf rv rw ru ru' p
  unfold gInt at p
  split at p
  · exact h pins s σ H x y u u' Q I ru ru' ⟨_, _, Rp.int_inv rv, Rp.int_inv rw, p _ H .refl wf (hg _ _ _ _)⟩
  · exact p.elim
def gSub := gInt (fun _ _ => true) fun i j => .int (i - j)
theorem oSub : ORul X (binaryOp .Sub) gSub := oInt0 op_sub fun _ _ _ _ => .int _
def gDiv := gInt (fun _ j => decide (0 < j ∧ j.natAbs.log2 < 9000)) fun i j => .int (i / j)
theorem oDiv : ORul X (binaryOp .FloorDiv) gDiv := oInt op_fdivW (fun _ j h => (show 0 < j ∧ j.natAbs.log2 < 9000 from of_decide_eq_true h)) fun _ _ _ _ => .int _
def gMod := gInt (fun _ j => decide (0 < j)) fun i j => .int (i % j)
theorem oMod : ORul X (binaryOp .Mod) gMod := oInt op_mod (fun _ _ h => of_decide_eq_true h) fun _ _ _ _ => .int _
theorem op_powX : OpR X (binaryOp .Pow) (rI (fun i j => 0 ≤ j ∧ (Builtin.Int.intBits i : Int) * j ≤ 2 ^ 27) fun i j => .int (i ^ j.toNat)) := opI fun _ _ _ _ _ _ _ hc q => pow_int hc.1 hc.2 q
def gPow := gInt (fun i j => decide (0 ≤ j ∧ (Builtin.Int.intBits i : Int) * j ≤ 2 ^ 27)) fun i j => .int (i ^ j.toNat)
theorem oPow : ORul X (binaryOp .Pow) gPow := oInt op_powX (fun _ _ h => of_decide_eq_true h) fun _ _ _ _ => .int _
def gShl := gInt (fun i j => decide (0 ≤ j ∧ j ≤ 1000000 ∧ i.natAbs < 2 ^ 64)) fun i j => .int (i * 2 ^ j.toNat)
theorem oShl : ORul X (binaryOp .LShift) gShl := oInt op_shl (fun i j h => (show 0 ≤ j ∧ j ≤ 1000000 ∧ i.natAbs < 2 ^ 64 from of_decide_eq_true h)) fun _ _ _ _ => .int _
def gShr := gInt (fun _ j => decide (0 ≤ j)) fun i j => .int (i / 2 ^ j.toNat)
theorem oShr : ORul X (binaryOp .RShift) gShr := oInt op_shr (fun _ _ h => of_decide_eq_true h) fun _ _ _ _ => .int _
def gAnd := gInt (fun _ _ => true) fun i j => .int (Builtin.bitAnd i j)
theorem oAnd : ORul X (binaryOp .BitAnd) gAnd := oInt0 op_and fun _ _ _ _ => .int _
def gOr := gInt (fun _ _ => true) fun i j => .int (Builtin.bitOr i j)
theorem oOr : ORul X (binaryOp .BitOr) gOr := oInt0 op_or fun _ _ _ _ => .int _
def gXor := gInt (fun _ _ => true) fun i j => .int (Builtin.bitXor i j)
theorem oXor : ORul X (binaryOp .BitXor) gXor := oInt0 op_xor fun _ _ _ _ => .int _
def evUn (g : Int → Int) (f : Sx) : Sx := fun ρ S => (f ρ S).bind fun v S1 => match v with
  | .d (.int i) => .ok (.d (.int (g i))) S1
  | _ => .no
theorem eUn {op : UnaryOp} {g : Int → Int} (h : UnR X (unaryOp op) (rU fun i => .int (g i))) (ha : PE X a (tE X.K fa)) : PE X (.UnaryOp op a pos) (tE X.K (evUn g fa)) := PEi (pe_un h ha) fun σ H Q ⟨A, S, ρ, w, env, p⟩ =>
  at_seq (P := Post X.K A H Q) w env p (fun h => h) (fun _ _ h => h) fun v S1 x H1 e1 w1 r1 p1 => by
    split at p1
    · exact ⟨_, Rp.int_inv r1, p1 _ H1 e1 w1 (.int _)⟩
    · exact p1.elim
theorem eNeg (ha : PE X a (tE X.K fa)) : PE X (.UnaryOp .USub a pos) (tE X.K (evUn (fun i => -i) fa)) := eUn un_neg ha
theorem eInv (ha : PE X a (tE X.K fa)) : PE X (.UnaryOp .Invert a pos) (tE X.K (evUn Builtin.bitNot fa)) := eUn un_inv ha

/-! ### + and * -/
def mulOk (i j : Int) : Bool := decide (((-(2 ^ 64) < i ∧ i < 2 ^ 64) ∨ (-(2 ^ 64) < j ∧ j < 2 ^ 64)) ∨ i.natAbs.log2 + j.natAbs.log2 < 1000000)
def CMulA (i j : Int) : Prop := CMul i j ∨ CMulW i j
theorem op_mulA {X : Cx} : OpR X (binaryOp .Mult) (rI CMulA fun i j => .int (i * j)) := opI fun _ _ _ _ _ _ _ hc q => mul_int q (hc.elim CMul.ok CMulW.ok)
theorem mulOk_ok {i j : Int} (h : mulOk i j = true) : CMulA i j := (of_decide_eq_true h).imp id id
def gMul : Val → Val → Sto → Res Val
  | .d (.int i), .d (.int j), S => if mulOk i j = true then .ok (.d (.int (i * j))) S else .no
  | v, .d (.int k), S => match asL S v with
    | some ds => if -(2 ^ 63) ≤ k ∧ k < 2 ^ 63 ∧ ds.length * k.toNat ≤ sizeLine then .ok (.f (.lst (List.replicate k.toNat ds).flatten)) S else .no
    | none => .no
  | _, _, _ => .no
theorem RpL.rep {L : List Addr} {xs : List V} {ds : List PyData} (r : RpL K L H xs ds) : ∀ k : Nat, RpL K L H (List.replicate k xs).flatten (List.replicate k ds).flatten
  | 0 => .nil
  | k + 1 => by
    rw [List.replicate_succ, List.replicate_succ, List.flatten_cons, List.flatten_cons]
    exact r.append (RpL.rep r k)
theorem Post.fresh {ds : List PyData} {xs : List V} {p : Addr} (h : Post K A H Q (.ok (.f (.lst ds)) S)) (w : Wf K A S H) (hp : H p = none) (r : RpL K A.V H xs ds) : Q (.ref p) (L2.upd H p (.lst xs)) := h.lst .refl w hp r
theorem oMul : ORul X (binaryOp .Mult) gMul := by
  intro pins s σ A S H x y u u' v w Q I wf rv rw ru ru' p
  unfold gMul at p
  split at p
  · split at p
    · rename_i c
      exact op_mulA pins s σ H x y u u' Q I ru ru' ⟨_, _, Rp.int_inv rv, Rp.int_inv rw, mulOk_ok c, p _ H .refl wf (.int _)⟩
    · exact p.elim
  · split at p
    · rename_i ds hds
      split at p
      · rename_i c
        obtain ⟨a, xs, e1, h1, h2⟩ := asL_ok wf rv hds
        refine op_rep pins s σ H x y u u' Q I ru ru' ⟨a, _, xs, e1, Rp.int_inv rw, h1, c.1, c.2.1, by rw [h2.length]; exact c.2.2, fun q hq => ?_⟩
        exact p.fresh wf hq (h2.rep _)
      · exact p.elim
    · exact p.elim
  · exact p.elim
def gAdd : Val → Val → Sto → Res Val
  | .d (.int i), .d (.int j), S => .ok (.d (.int (i + j))) S
  | .d (.str i), .d (.str j), S => if i.length + j.length ≤ sizeLine then .ok (.d (.str (i ++ j))) S else .no
  | .d (.tuple i), .d (.tuple j), S => if i.length + j.length ≤ sizeLine then .ok (.d (.tuple (i ++ j))) S else .no
  | v, w, S => match asL S v, asL S w with
    | some i, some j => if i.length + j.length ≤ sizeLine then .ok (.f (.lst (i ++ j))) S else .no
    | _, _ => .no
theorem oAdd : ORul X (binaryOp .Add) gAdd := by
  intro pins s σ A S H x y u u' v w Q I wf rv rw ru ru' p
  unfold gAdd at p
  split at p
  · exact op_add pins s σ H x y u u' Q I ru ru' ⟨_, _, Rp.int_inv rv, Rp.int_inv rw, p _ H .refl wf (.int _)⟩
  · split at p
    · rename_i c
      exact op_add_str pins s σ H x y u u' Q I ru ru' ⟨_, _, Rp.str_inv rv, Rp.str_inv rw, c, p _ H .refl wf (.str _)⟩
    · exact p.elim
  · split at p
    · rename_i c
      have rv' : Rp X.K A.V H x (.tuple _) := rv
      have rw' : Rp X.K A.V H y (.tuple _) := rw
      cases rv' with | tup l1 q1 => cases rw' with | tup l2 q2 =>
        refine op_catA pins s σ H _ _ u u' Q I ru ru' ⟨_, _, _, _, rfl, rfl, l1.seq, l2.seq, by rw [q1.length, q2.length]; exact c, fun e => ?_, fun e e' => ?_, fun e e' q hq => ?_⟩
        · subst e
          cases q1
          exact p _ H .refl wf rw
        · subst e'
          cases q2
          rw [List.append_nil] at p
          exact p _ H .refl wf rv
        · exact Post.tup p .refl wf hq (q1.append q2)
    · exact p.elim
  · split at p
    · rename_i i j h1 h2
      split at p
      · rename_i c
        obtain ⟨a, xs, e1, g1, r1⟩ := asL_ok wf rv h1
        obtain ⟨b, ys, e2, g2, r2⟩ := asL_ok wf rw h2
        exact op_cat pins s σ H x y u u' Q I ru ru' ⟨a, b, xs, ys, e1, e2, g1, g2, by rw [r1.length, r2.length]; exact c, fun q hq => p.fresh wf hq (r1.append r2)⟩
      · exact p.elim
    · exact p.elim

/-! ### comparisons -/
def nn : PyData → Bool
  | .none => false
  | _ => true
def gCmp (fi : Int → Int → Bool) (fd : PyData → PyData → Bool) : Val → Val → Sto → Res Val := fun v w S => match v, w with
  | .d (.int i), .d (.int j) => .ok (.d (.bool (fi i j))) S
  | v, w => match asD S v, asD S w with
    | some x, some y => if PySem.W.alike x y = true ∧ SeqAt.shaped x = true ∧ SeqAt.shaped y = true ∧ nn x = true then .ok (.d (.bool (fd x y))) S else .no
    | _, _ => .no
theorem oCmp {f : Value → Value → Sem Value} {fi : Int → Int → Bool} {fd : PyData → PyData → Bool} (hu : X.A.units + 100 < cLine) (h1 : OpR X f (rI0 fun i j => .bl (fi i j)))
    (h2 : ∀ (s : Shared) (a b : Value) (x y : PyData) (as bs : List Addr) (Q : Value → Shared → Prop), Reads s.heap a x as → Reads s.heap b y bs → PySem.W.alike x y = true → x ≠ .none → X.A.units + min x.depth y.depth < cLine → Q (.bool (fd x y)) s → wpAny (model X.prog X.w) X.A (f a b) Q X.xe s) : ORul X f (gCmp fi fd) := by
  intro pins s σ A S H x y u u' v w Q I wf rv rw ru ru' p
  unfold gCmp at p
  split at p
  · exact h1 pins s σ H x y u u' Q I ru ru' ⟨_, _, Rp.int_inv rv, Rp.int_inv rw, p _ H .refl wf (.bl _)⟩
  · split at p
    · rename_i d e hd he
      split at p
      · rename_i c
        obtain ⟨c1, c2, c3, c4⟩ := c
        have l1 := SeqAt.canLay_of_shaped c2
        have l2 := SeqAt.canLay_of_shaped c3
        obtain ⟨as, ra⟩ := Dp.reads I d x u (asD_dp wf rv hd l1) ru
        obtain ⟨bs, rb⟩ := Dp.reads I e y u' (asD_dp wf rw he l2) ru'
        have h64 := SeqAt.depth_of_shaped c2
        refine h2 s u u' d e as bs _ ra rb c1 (fun z => by rw [z] at c4; cases c4) (by omega) ⟨.bl _, H, I, rfl, p _ H .refl wf (.bl _)⟩
      · exact p.elim
    · exact p.elim
def gLt := gCmp (fun i j => decide (i < j)) PySem.W.dataLt
def gLe := gCmp (fun i j => decide (i ≤ j)) fun x y => !PySem.W.dataLt y x
def gGt := gCmp (fun i j => decide (j < i)) fun x y => PySem.W.dataLt y x
def gGe := gCmp (fun i j => decide (j ≤ i)) fun x y => !PySem.W.dataLt x y
theorem oLt (hu : X.A.units + 100 < cLine) : ORul X (compareOp .Lt) gLt := oCmp hu op_lt fun _ _ _ _ _ _ _ _ r1 r2 a n h q => PySem.W.lt_data r1 r2 a n h q
theorem oLe (hu : X.A.units + 100 < cLine) : ORul X (compareOp .LtE) gLe := oCmp hu op_le fun _ _ _ _ _ _ _ _ r1 r2 a n h q => PySem.W.le_data r1 r2 a n h q
theorem oGt (hu : X.A.units + 100 < cLine) : ORul X (compareOp .Gt) gGt := oCmp hu op_gt fun _ _ _ _ _ _ _ _ r1 r2 a n h q => PySem.W.gt_data r1 r2 a n h q
theorem oGe (hu : X.A.units + 100 < cLine) : ORul X (compareOp .GtE) gGe := oCmp hu op_ge fun _ _ _ _ _ _ _ _ r1 r2 a n h q => PySem.W.ge_data r1 r2 a n h q
def gEq : Val → Val → Sto → Res Val
  | .d (.str i), .d (.str j), S => .ok (.d (.bool (decide (i = j)))) S
  | v, w, S => match asD S v, asD S w with
    | some x, some y => if SeqAt.shaped x = true ∧ SeqAt.shaped y = true then .ok (.d (.bool (PyData.eqv x y))) S else .no
    | _, _ => .no
def gNe : Val → Val → Sto → Res Val
  | .d (.str i), .d (.str j), S => .ok (.d (.bool (!decide (i = j)))) S
  | v, w, S => match asD S v, asD S w with
    | some x, some y => if SeqAt.shaped x = true ∧ SeqAt.shaped y = true then .ok (.d (.bool (!PyData.eqv x y))) S else .no
    | _, _ => .no
theorem oEq (hu : X.A.units + 100 < cLine) : ORul X (compareOp .Eq) gEq := by
  intro pins s σ A S H x y u u' v w Q I wf rv rw ru ru' p
  unfold gEq at p
  split at p
  · rename_i i j
    have e1 := Rp.str_inv rv
    have e2 := Rp.str_inv rw
    subst e1 e2
    refine op_eq pins s σ H _ _ u u' Q I ru ru' ⟨rfl, ?_⟩
    have e : decide (V.str i = V.str j) = decide (i = j) := by simp
    rw [e]
    exact p _ H .refl wf (.bl _)
  split at p
  · rename_i d e h1 h2
    split at p
    · rename_i c
      exact op_eqD (by omega) pins s σ H x y u u' Q I ru ru' ⟨d, e, asD_dp wf rv h1 (SeqAt.canLay_of_shaped c.1), asD_dp wf rw h2 (SeqAt.canLay_of_shaped c.2), c.1, c.2, p _ H .refl wf (.bl _)⟩
    · exact p.elim
  · exact p.elim
theorem oNe (hu : X.A.units + 100 < cLine) : ORul X (compareOp .NotEq) gNe := by
  intro pins s σ A S H x y u u' v w Q I wf rv rw ru ru' p
  unfold gNe at p
  split at p
  · rename_i i j
    have e1 := Rp.str_inv rv
    have e2 := Rp.str_inv rw
    subst e1 e2
    refine op_ne pins s σ H _ _ u u' Q I ru ru' ⟨rfl, ?_⟩
    have e : decide (V.str i = V.str j) = decide (i = j) := by simp
    rw [e]
    exact p _ H .refl wf (.bl _)
  split at p
  · rename_i d e h1 h2
    split at p
    · rename_i c
      exact op_neD (by omega) pins s σ H x y u u' Q I ru ru' ⟨d, e, asD_dp wf rv h1 (SeqAt.canLay_of_shaped c.1), asD_dp wf rw h2 (SeqAt.canLay_of_shaped c.2), c.1, c.2, p _ H .refl wf (.bl _)⟩
    · exact p.elim
  · exact p.elim
def kOf : PyData → Option Key
  | .int i => some (.inl i)
  | .str x => some (.inr x)
  | _ => none
/-- a dict's entry -/
def look (ps : List (PyData × PyData)) (k : Key) : Option PyData := (ps.find? fun p => decide (kOf p.1 = some k)).map (·.2)
theorem kOf_kD (k : Key) : kOf (kD k) = some k := by cases k <;> rfl
theorem look_ok {L : List Addr} {k : Key} : ∀ {kvs : List (Key × V)} {ps : List (PyData × PyData)}, RpD K L H kvs ps → (look ps k = none ∧ valV kvs k = none) ∨ ∃ d v, look ps k = some d ∧ valV kvs k = some v ∧ Rp K L H v d
  | _, _, .nil => .inl ⟨rfl, rfl⟩
  | _, _, .cons (k := j) (v := v) (kvs := kvs) (d := d) (ps := ps) r t => by
    by_cases e : j = k
    · subst e
      exact .inr ⟨d, v, by simp [look, kOf_kD], valV_pos rfl, r⟩
    · have h1 : look ((kD j, d) :: ps) k = look ps k := by simp [look, kOf_kD, e]
      have h2 : valV ((j, v) :: kvs) k = valV kvs k := valV_neg e
      rw [h1, h2]
      exact look_ok t
/-- as a dict -/
def asM (S : Sto) : Val → Option (List (PyData × PyData))
  | .d (.dict ps) => some ps
  | .c n => match S[n]? with
    | some (.dic ps) => some ps
    | _ => none
  | _ => none
theorem asM_ok {x : V} {v : Val} {ps : List (PyData × PyData)} (w : Wf K A S H) (r : Rv K A H x v) (h : asM S v = some ps) : ∃ a kvs, x = .ref a ∧ Rd H a (.dK kvs) ∧ RpD K A.V H kvs ps := by
  cases v with
  | f k => cases h
  | g cs i => cases h
  | x => cases h
  | z es => cases h
  | d y =>
    cases y with
    | dict es =>
      cases h
      have r' : Rp K A.V H x (.dict ps) := r
      cases r' with | dic l n q => exact ⟨_, _, rfl, l, q⟩
    | _ => cases h
  | c n =>
    have h : (match S[n]? with
      | some (.dic es) => some es
      | _ => none) = some ps := h
    split at h
    · rename_i es q
      cases h
      obtain ⟨a, h1, rfl⟩ := r
      obtain ⟨xs, h2, h3⟩ := w.ok n a _ h1 q
      exact ⟨a, xs, rfl, .inl h2, h3⟩
    · cases h
theorem dget_rd {H : Hp} {a : Addr} {kvs : List (Key × V)} {k : Key} (e : Rd H a (.dK kvs)) : DGet H a (kV k) (valV kvs k) := .inl ⟨kvs, k, e, rfl, rfl⟩
def rowOf (S : Sto) : Val → Option (List PyData)
  | .d (.tuple ds) => some ds
  | v => match asD S v with
    | some (.list ds) => some ds
    | _ => none
def isIn (S : Sto) (v w : Val) : Option Bool := match asM S w with
  | some ps => match v with
    | .d y => match kOf y with
      | some k => some (look ps k).isSome
      | none => none
    | _ => none
  | none => match v, w with
    | .d (.str i), .d (.str j) => some (!(Builtin.Str.occurrences j i 0 j.length 1).isEmpty)
    | v, w => match asD S v, rowOf S w with
      | some d, some ds => if SeqAt.shaped d = true ∧ SeqAt.shaped (.list ds) = true then some (ds.any fun z => PyData.eqv z d) else none
      | _, _ => none
def gIn : Val → Val → Sto → Res Val := fun v w S => match isIn S v w with
  | some b => .ok (.d (.bool b)) S
  | none => .no
def gNotIn : Val → Val → Sto → Res Val := fun v w S => match isIn S v w with
  | some b => .ok (.d (.bool (!b))) S
  | none => .no
theorem shaped_tl {ds : List PyData} (h : SeqAt.shaped (.list ds) = true) : SeqAt.shaped (.tuple ds) = true := by
  unfold SeqAt.shaped at h ⊢
  simpa [PyData.canLay0, PyData.depth] using h
theorem Rp.key {L : List Addr} {x : V} {y : PyData} {k : Key} (r : Rp K L H x y) (h : kOf y = some k) : x = kV k := by
  cases y with
  | int i => cases h; exact Rp.int_inv r
  | str i => cases h; exact Rp.str_inv r
  | _ => cases h
theorem in_core (hu : X.A.units + 65 < cLine) {pins : List (Addr × Obj)} {s : Shared} {x y : V} {u u' : Value} {v w : Val} {c : Bool} {Q' : Value → Shared → Prop} (I : Inv X pins σ H s) (wf : Wf X.K A S H) (rv : Rv X.K A H x v) (rw : Rv X.K A H y w) (ru : RelV x u) (ru' : RelV y u') (h : isIn S v w = some c)
    (neg : Bool) (q : ∀ s', Inv X pins σ H s' → Q' (.bool (if neg then !c else c)) s') : wpAny (model X.prog X.w) X.A (compareOp (if neg then .NotIn else .In) u u') Q' X.xe s := by
  unfold isIn at h
  split at h
  · rename_i ps hps
    split at h
    · rename_i d
      split at h
      · rename_i k hk
        cases h
        obtain ⟨a, kvs, e1, g1, r1⟩ := asM_ok wf rw hps
        subst e1
        cases ru'
        have e2 := Rp.key rv hk
        subst e2
        have e3 : (valV kvs k).isSome = (look ps k).isSome := by
          rcases look_ok (k := k) r1 with ⟨h1, h2⟩ | ⟨d, v, h1, h2, _⟩ <;> rw [h1, h2] <;> rfl
        have hu1 : X.A.units + 1 < cLine := by omega
        cases neg with
        | true =>
          refine d_notIn hu1 I (dget_rd g1) ru fun s' I' => ?_
          rw [e3]; exact q s' I'
        | false =>
          refine d_in hu1 I (dget_rd g1) ru fun s' I' => ?_
          rw [e3]; exact q s' I'
      · cases h
    · cases h
  · split at h
    · cases h
      have e1 := Rp.str_inv rv
      have e2 := Rp.str_inv rw
      cases neg with
      | true => exact thn (op_notin_str pins s σ H x y u u' (fun z H' => H' = H ∧ z = .bl _) I ru ru' ⟨_, _, e1, e2, rfl, rfl⟩) fun z s' ⟨zv, H', I', rz, eh, ez⟩ => by subst eh ez; cases rz; exact q s' I'
      | false => exact thn (op_in_str pins s σ H x y u u' (fun z H' => H' = H ∧ z = .bl _) I ru ru' ⟨_, _, e1, e2, rfl, rfl⟩) fun z s' ⟨zv, H', I', rz, eh, ez⟩ => by subst eh ez; cases rz; exact q s' I'
    · split at h
      · rename_i d ds hd hds
        split at h
        · rename_i c
          cases h
          obtain ⟨as, r1⟩ := Dp.reads I d x u (asD_dp wf rv hd (SeqAt.canLay_of_shaped c.1)) ru
          have st := shaped_tl c.2
          have key : (∃ as, Reads s.heap u' (.tuple ds) as) ∨ ∃ as, Reads s.heap u' (.list ds) as := by
            unfold rowOf at hds
            split at hds
            · cases hds
              exact .inl (Dp.reads I (.tuple ds) y u' (Rp.dp _ _ (SeqAt.canLay_of_shaped st) rw) ru')
            · split at hds
              · rename_i es he
                cases hds
                exact .inr (Dp.reads I (.list ds) y u' (asD_dp wf rw he (SeqAt.canLay_of_shaped c.2)) ru')
              · cases hds
          rcases key with ⟨bs, r2⟩ | ⟨bs, r2⟩
          · cases neg with
            | true => exact SeqAt.notIn_tuple_reads r2 r1 (SeqAt.canLay_of_shaped st) (SeqAt.canLay_of_shaped c.1) (room_in_shaped c.1 hu) (q s I)
            | false => exact SeqAt.in_tuple_reads r2 r1 (SeqAt.canLay_of_shaped st) (SeqAt.canLay_of_shaped c.1) (room_in_shaped c.1 hu) (q s I)
          · cases neg with
            | true => exact SeqAt.notIn_list_reads r2 r1 (SeqAt.canLay_of_shaped c.2) (SeqAt.canLay_of_shaped c.1) (room_in_shaped c.1 hu) (q s I)
            | false => exact SeqAt.in_list_reads r2 r1 (SeqAt.canLay_of_shaped c.2) (SeqAt.canLay_of_shaped c.1) (room_in_shaped c.1 hu) (q s I)
        · cases h
      · cases h
theorem oIn (hu : X.A.units + 100 < cLine) : ORul X (compareOp .In) gIn := by
  intro pins s σ A S H x y u u' v w Q I wf rv rw ru ru' p
  unfold gIn at p
  split at p
  · rename_i b hb
    exact in_core (by omega) I wf rv rw ru ru' hb false fun s' I' => ⟨.bl b, H, I', rfl, p _ H .refl wf (.bl _)⟩
  · exact p.elim
theorem oNotIn (hu : X.A.units + 100 < cLine) : ORul X (compareOp .NotIn) gNotIn := by
  intro pins s σ A S H x y u u' v w Q I wf rv rw ru ru' p
  unfold gNotIn at p
  split at p
  · rename_i b hb
    exact in_core (by omega) I wf rv rw ru ru' hb true fun s' I' => ⟨.bl (!b), H, I', rfl, p _ H .refl wf (.bl _)⟩
  · exact p.elim
def isNone : Val → Bool
  | .d .none => true
  | _ => false
theorem isNone_ok {x : V} {v : Val} (r : Rv K A H x v) : decide (x = V.non) = isNone v := by
  cases v with
  | c n => obtain ⟨a, _, rfl⟩ := r; rfl
  | f k => exact r.elim
  | g cs i => exact r.elim
  | x => obtain ⟨a, rfl⟩ := r; rfl
  | z ds => obtain ⟨a, xs, rfl, _⟩ := r; rfl
  | d y =>
    have r' : Rp K A.V H x y := r
    cases r' <;> rfl
def gIsN : Val → Val → Sto → Res Val
  | v, .d .none, S => .ok (.d (.bool (isNone v))) S
  | _, _, _ => .no
def gNotN : Val → Val → Sto → Res Val
  | v, .d .none, S => .ok (.d (.bool (!isNone v))) S
  | _, _, _ => .no
theorem oIsN : ORul X (compareOp .Is) gIsN := by
  intro pins s σ A S H x y u u' v w Q I wf rv rw ru ru' p
  unfold gIsN at p
  split at p
  · have e : y = .non := by
      have r' : Rp X.K A.V H y .none := rw
      cases r'; rfl
    exact op_isN pins s σ H x y u u' Q I ru ru' ⟨e, by rw [isNone_ok rv]; exact p _ H .refl wf (.bl _)⟩
  · exact p.elim
theorem oNotN : ORul X (compareOp .IsNot) gNotN := by
  intro pins s σ A S H x y u u' v w Q I wf rv rw ru ru' p
  unfold gNotN at p
  split at p
  · have e : y = .non := by
      have r' : Rp X.K A.V H y .none := rw
      cases r'; rfl
    exact op_notN pins s σ H x y u u' Q I ru ru' ⟨e, by rw [isNone_ok rv]; exact p _ H .refl wf (.bl _)⟩
  · exact p.elim
end
end MV
set_option Elab.async false
set_option linter.all false
set_option maxRecDepth 100000
/-! Readings by mirrors: subscripts, slices, stores, methods, built-ins. -/
namespace MV
open PySem PySem.Spec PyProof.Rows L2
section
variable {X : Cx} {K : Frg} {a b : Expr} {fa fb : Sx} {pos : Pos} {A A' A2 : Wd} {H H' H2 : Hp} {S S' : Sto} {Q : VK} {ρ : Envi} {σ : L2.St} {D : Ends}
/-! ### x[i] -/
def gIxS (v : Val) (i : Int) (S : Sto) : Res Val := match seqOf S v with
  | some q => match atI q.2.1 i with
    | some d => .ok (.d d) S
    | none => .no
  | none => .no
def gIx : Val → Val → Sto → Res Val := fun v w S => match v, w with
  | .d (.str z), .d (.int i) => if z.length ≤ sizeLine then (match atI z.cps.toList i with
    | some c => .ok (.d (.str ⟨#[c]⟩)) S
    | none => .no) else .no
  | v, w => match asM S v with
    | some ps => match w with
      | .d y => match kOf y with
        | some k => match look ps k with
          | some d => .ok (.d d) S
          | none => .no
        | none => .no
      | _ => .no
    | none => match w with
      | .d (.int i) => gIxS v i S
      | _ => .no
theorem RpL.atI {L : List Addr} {xs : List V} {ds : List PyData} {i : Int} {d : PyData} (r : RpL K L H xs ds) (h : L2.atI ds i = some d) : ∃ v, L2.atI xs i = some v ∧ Rp K L H v d := by
  unfold L2.atI at h ⊢
  rw [r.length]
  cases q : ixN ds.length i with
  | none => rw [q] at h; cases h
  | some j =>
    rw [q] at h
    exact r.get h
theorem xIx (hu : X.A.units + 1 < cLine) : IxR X (rO X.K gIx) := by
  intro value slice pins s σ H x y u u' Q I ru ru' ⟨A, S, v, w, wf, rv, rw, p⟩ hs
  unfold gIx at p
  split at p
  · split at p
    · rename_i c
      split at p
      · rename_i z hz
        exact ix_str value slice pins s σ H x y u u' Q I ru ru' ⟨_, _, _, Rp.str_inv rv, Rp.int_inv rw, c, hz, p _ H .refl wf (.str _)⟩ hs
      · exact p.elim
    · exact p.elim
  · split at p
    · rename_i ps hps
      split at p
      · split at p
        · rename_i k hk
          split at p
          · rename_i d hd
            obtain ⟨a, kvs, e1, g1, r1⟩ := asM_ok wf rv hps
            subst e1
            cases ru
            have e2 := Rp.key rw hk
            subst e2
            rcases look_ok (k := k) r1 with ⟨h1, h2⟩ | ⟨d', z, h1, h2, h3⟩
            · rw [hd] at h1; cases h1
            · rw [hd] at h1
              cases h1
              have g : DGet H a (kV k) (some z) := by
                have g := dget_rd (k := k) g1
                rwa [h2] at g
              exact tail_any (dict_typeIs I g) slot_dict_getitem.lookup (d_getItem hu I g ru' fun w' s' I' r' => ⟨z, H, I', r', p z H .refl wf h3⟩) hs
          · exact p.elim
        · exact p.elim
      · exact p.elim
    · split at p
      · rename_i i _
        unfold gIxS at p
        split at p
        · rename_i q hq
          split at p
          · rename_i d hd
            obtain ⟨a, xs, e1, r1, sq⟩ := seq_at (t := q.1) (ds := q.2.1) (g := q.2.2) hq wf rv
            obtain ⟨z, hz, rz⟩ := r1.atI hd
            cases ht : q.1 with
            | true =>
              rw [ht] at sq
              exact ix_tup value slice pins s σ H x y u u' Q I ru ru' ⟨a, xs, _, z, e1, Rp.int_inv rw, sq, hz, p z H .refl wf rz⟩ hs
            | false =>
              rw [ht] at sq
              exact ix_list value slice pins s σ H x y u u' Q I ru ru' ⟨a, xs, _, z, e1, Rp.int_inv rw, sq, hz, p z H .refl wf rz⟩ hs
          · exact p.elim
        · exact p.elim
      · exact p.elim
theorem eIx (hu : X.A.units + 100 < cLine) (ha : PE X a (tE X.K fa)) (hb : PE X b (tE X.K fb)) (hs : PlainIx b := by exact fun _ _ => rfl) : PE X (.Subscript a b pos) (tE X.K (ev2 gIx fa fb)) := PEi (pe_ix (xIx (by omega)) ha hb hs) fun _ _ _ => ev2_ok

/-! ### x[i:j] -/
abbrev SO := Envi → Sto → Res (Option Int)
def PostO (K : Frg) (A : Wd) (H : Hp) (Q : Option Int → Hp → Prop) : Res (Option Int) → Prop
  | .ok b S => ∀ H', Ext A H A H' → Wf K A S H' → Q b H'
  | .exc _ _ => False
  | .no => False
def tOp' (K : Frg) (f : SO) : TO := fun σ H Q => At K σ H fun A ρ S => PostO K A H Q (f ρ S)
theorem PostO.seq {β : Type} {P : Res β → Prop} {Q : Option Int → Hp → Prop} {r : Res (Option Int)} {g : Option Int → Sto → Res β} (h : P (r.bind g)) (h0 : P .no → False) (h1 : ∀ e S, P (.exc e S) → False)
    (k : ∀ v S1 H1, Ext A H A H1 → Wf K A S1 H1 → P (g v S1) → Q v H1) : PostO K A H Q r := by
  cases r with
  | ok v S1 => exact fun H1 e w => k v S1 H1 e w h
  | exc e S => exact (h1 _ _ h).elim
  | no => exact (h0 h).elim
def oNo : SO := fun _ S => .ok none S
def oYes (f : Sx) : SO := fun ρ S => (f ρ S).bind fun v S1 => match v with
  | .d (.int i) => .ok (some i) S1
  | _ => .no
theorem POi {e : Option Expr} {t t' : TO} (h : PO X e t) (i : ∀ σ H Q, t' σ H Q → t σ H Q) : PO X e t' := ⟨fun pins s σ H Q I q => h.run pins s σ H Q I (i σ H Q q)⟩
theorem poN : PO X none (tOp' X.K oNo) := POi po_none fun σ H Q ⟨A, S, ρ, w, env, p⟩ => p H .refl w
theorem poS (h : PE X a (tE X.K fa)) : PO X (some a) (tOp' X.K (oYes fa)) := POi (po_some h) fun σ H Q ⟨A, S, ρ, w, env, p⟩ =>
  at_seq (P := PostO X.K A H Q) w env p (fun h => h) (fun _ _ h => h) fun v S1 x H1 e1 w1 r1 p1 => by
    split at p1
    · exact ⟨_, Rp.int_inv r1, p1 H1 e1 w1⟩
    · exact p1.elim
def cutD (ds : List PyData) (lo hi : Option Int) : List PyData := (ds.drop (HT.sIx ds.length 0 lo)).take (HT.sIx ds.length ds.length hi - HT.sIx ds.length 0 lo)
theorem RpL.cut {L : List Addr} {xs : List V} {ds : List PyData} (r : RpL K L H xs ds) (lo hi : Option Int) : RpL K L H (cutV xs lo hi) (cutD ds lo hi) := by
  unfold cutV cutD
  rw [r.length]
  exact (r.drop _).take _
def gSl (v : Val) (lo hi : Option Int) (S : Sto) : Res Val := match seqOf S v with
  | some (true, ds, _) => .ok (.d (.tuple (cutD ds lo hi))) S
  | some (false, ds, _) => .ok (.f (.lst (cutD ds lo hi))) S
  | none => .no
def rS (K : Frg) : V → Option Int → Option Int → Hp → VK → Prop := fun x lo hi H Q => ∃ A S v, Wf K A S H ∧ Rv K A H x v ∧ Post K A H Q (gSl v lo hi S)
theorem slR : SlR X (rS X.K) := by
  intro pins s σ H x u vl vu lo hi sl Q I ru hs pl pu ⟨A, S, v, wf, rv, p⟩
  unfold gSl at p
  split at p
  · rename_i ds g hq
    obtain ⟨a, xs, e1, r1, sq⟩ := seq_at hq wf rv
    refine sl_tupA pins s σ H x u vl vu lo hi sl Q I ru hs pl pu ⟨a, xs, e1, sq, fun c => ?_, fun c q hq => Post.tup p .refl wf hq (r1.cut lo hi)⟩
    have e2 : cutD ds lo hi = ds := by
      unfold cutD
      rw [r1.length] at c
      rw [c.1, c.2]
      simp
    rw [e2] at p
    cases v with
    | d y =>
      cases y <;> first | (cases hq; done) | skip
      cases hq
      rw [e1] at rv
      exact p _ H .refl wf rv
    | c n =>
      have hq : (match S[n]? with
        | some (.lst es) => some (false, es, [(n, es)])
        | _ => none) = some (true, ds, g) := hq
      split at hq <;> cases hq
    | z ds => cases hq
    | g cs i => cases hq
    | x => cases hq
    | f k => cases hq
  · rename_i ds g hq
    obtain ⟨a, xs, e1, r1, sq⟩ := seq_at hq wf rv
    exact sl_list pins s σ H x u vl vu lo hi sl Q I ru hs pl pu ⟨a, xs, e1, sq, fun q hq => Post.fresh p wf hq (r1.cut lo hi)⟩
  · exact p.elim
def evSl (f : Sx) (lo hi : SO) : Sx := fun ρ S => (f ρ S).bind fun v S1 => (lo ρ S1).bind fun l S2 => (hi ρ S2).bind fun h S3 => gSl v.th l h S3
theorem eSl {lo hi : Option Expr} {l h : SO} {p2 : Pos} (ha : PE X a (tE X.K fa)) (hl : PO X lo (tOp' X.K l)) (hh : PO X hi (tOp' X.K h)) : PE X (.Subscript a (.Slice lo hi none p2) pos) (tE X.K (evSl fa l h)) := PEi (pe_slice slR ha hl hh) fun σ H Q ⟨A, S, ρ, w, env, p⟩ =>
  at_seq (P := Post X.K A H Q) w env p (fun h => h) (fun _ _ h => h) fun v S1 x H1 e1 w1 r1 p1 => ⟨A, S1, ρ, w1, env.mono e1, PostO.seq (P := Post X.K A H Q) p1 (fun h => h) (fun _ _ h => h) fun lo S2 H2 e2 w2 p2 =>
    ⟨A, S2, ρ, w2, (env.mono e1).mono e2, PostO.seq (P := Post X.K A H Q) p2 (fun h => h) (fun _ _ h => h) fun hi S3 H3 e3 w3 p3 => ⟨A, S3, v.th, w3, (r1.mono e2).mono e3, p3.shift ((e1.trans e2).trans e3) w3⟩⟩⟩

/-! ### x[i] = v -/
def putD (ps : List (PyData × PyData)) (k : Key) (y : PyData) : List (PyData × PyData) :=
  if (look ps k).isSome then ps.map fun p => if kOf p.1 = some k then (p.1, y) else p else ps ++ [(kD k, y)]
theorem RpD.append {L : List Addr} : ∀ {kvs lvs : List (Key × V)} {ps qs : List (PyData × PyData)}, RpD K L H kvs ps → RpD K L H lvs qs → RpD K L H (kvs ++ lvs) (ps ++ qs)
  | _, _, _, _, .nil, t => t
  | _, _, _, _, .cons r s, t => .cons r (RpD.append s t)
theorem RpD.length {L : List Addr} : ∀ {kvs : List (Key × V)} {ps : List (PyData × PyData)}, RpD K L H kvs ps → kvs.length = ps.length
  | _, _, .nil => rfl
  | _, _, .cons _ t => by rw [List.length_cons, List.length_cons, RpD.length t]
theorem RpD.repl {L : List Addr} {k : Key} {v : V} {y : PyData} (ry : Rp K L H v y) : ∀ {kvs : List (Key × V)} {ps : List (PyData × PyData)}, RpD K L H kvs ps →
    RpD K L H (kvs.map fun kv => if kv.1 = k then (kv.1, v) else kv) (ps.map fun p => if kOf p.1 = some k then (p.1, y) else p)
  | _, _, .nil => .nil
  | _, _, .cons (k := j) (v := u) (kvs := kvs) (d := d) (ps := ps) r t => by
    rw [List.map_cons, List.map_cons]
    by_cases e : j = k
    · have h1 : kOf (kD j, d).1 = some k := by rw [← e]; exact kOf_kD j
      rw [if_pos h1, if_pos (show (j, u).1 = k from e)]
      exact .cons ry (RpD.repl ry t)
    · have h1 : ¬ kOf (kD j, d).1 = some k := fun z => e (Option.some.inj ((kOf_kD j).symm.trans z))
      rw [if_neg h1, if_neg (show ¬ (j, u).1 = k from e)]
      exact .cons r (RpD.repl ry t)
theorem RpD.put {L : List Addr} {k : Key} {v : V} {y : PyData} (ry : Rp K L H v y) {kvs : List (Key × V)} {ps : List (PyData × PyData)} (r : RpD K L H kvs ps) : RpD K L H (putK kvs k v) (putD ps k y) := by
  unfold putK putD
  rw [valV_any]
  rcases look_ok (k := k) r with ⟨h1, h2⟩ | ⟨d, u, h1, h2, _⟩
  · rw [h1, h2]
    exact r.append (.cons ry .nil)
  · rw [h1, h2]
    exact r.repl ry
def gPut (v i x : Val) (S : Sto) : Option Sto := match v, x with
  | .c n, .d y => match S[n]? with
    | some (.lst ds) => match i with
      | .d (.int k) => match ixN ds.length k with
        | some j => some (S.set n (.lst (ds.set j y)))
        | none => none
      | _ => none
    | some (.dic ps) => match i with
      | .d z => match kOf z with
        | some k => if ps.length < sizeLine then some (S.set n (.dic (putD ps k y))) else none
        | none => none
      | _ => none
    | _ => none
  | _, _ => none
def rP (K : Frg) : V → V → V → Hp → (Hp → Prop) → Prop := fun o i x H Q => ∃ A S v w y S', Wf K A S H ∧ Rv K A H o v ∧ Rv K A H i w ∧ Rv K A H x y ∧ gPut v w y S = some S' ∧ ∀ H', Ext A H A H' → Wf K A S' H' → Q H'
theorem set_any (hu : X.A.units + 1 < cLine) : PSet X (rP X.K) := by
  intro pins s σ H o i x ov iv xv Q I ro ri rx ⟨A, S, v, w, y, S', wf, rv, rw, ry, hp, q⟩
  unfold gPut at hp
  split at hp
  · rename_i n y'
    obtain ⟨a, ha, e1⟩ := rv
    subst e1
    have ma : a ∈ A.A := List.mem_of_getElem? ha
    split at hp
    · rename_i ds hds
      obtain ⟨xs, h2, h3⟩ := wf.ok n a _ ha hds
      split at hp
      · rename_i k
        split at hp
        · rename_i j hj
          cases hp
          refine set_list pins s σ H _ i x ov iv xv Q I ro ri rx ⟨a, xs, k, j, rfl, Rp.int_inv rw, h2, by rw [h3.length]; exact hj, q _ (.upd ma) (wf.upd ha ⟨_, upd_same, (h3.set ry j).mono (kp_upd ma)⟩)⟩
        · cases hp
      · cases hp
    · rename_i ps hps
      obtain ⟨kvs, h2, h3⟩ := wf.ok n a _ ha hps
      split at hp
      · rename_i z
        split at hp
        · rename_i k hk
          split at hp
          · rename_i hl
            cases hp
            have e2 := Rp.key rw hk
            subst e2
            cases ro
            have hl' : kvs.length < sizeLine := by rw [h3.length]; exact hl
            exact d_setItem hu I (DPut.k (v := x) h2 hl') ri rx fun s' I' => ⟨_, I', q _ (.upd ma) (wf.upd ha ⟨_, upd_same, (h3.put ry).mono (kp_upd ma)⟩)⟩
          · cases hp
        · cases hp
      · cases hp
    · cases hp
  · cases hp
def sPut (fo fi fe : Sx) : Ss := fun ρ S => (fe ρ S).bind fun x S1 => (fo ρ S1).bind fun v S2 => (fi ρ S2).bind fun i S3 => match gPut v.th i.th x.th S3 with
  | some S4 => .ok (.nx ρ) S4
  | none => .no
theorem sPutR {o i : Expr} {fo fi : Sx} {p2 : Pos} (hu : X.A.units + 100 < cLine) (ho : PE X o (tE X.K fo)) (hi : PE X i (tE X.K fi)) (he : PE X a (tE X.K fa))
    (hx : ∀ v, assign (.Subscript o i p2) X.env v = (do
      let ov ← holding [v] (eval o X.env)
      let iv ← holding [v, ov] (eval i X.env)
      standAt p2
      holding [v, ov, iv] (setItem ov iv v)
      release [v, ov, iv] []) := by intro _; rfl)
    (hs : swapsWithSole [.Subscript o i p2] a pos.line X.env = pure false := by rfl) (hw : swappedStores [.Subscript o i p2] a X.env = pure none := by rfl)
    (h1 : (assignEach [.Subscript o i p2] X.env).map (·.2) = [assign (.Subscript o i p2) X.env] := by rfl) : PS X (.Assign [.Subscript o i p2] a pos) (tS X.K (sPut fo fi fa)) :=
  PSi (ps_asg he (pg_sub ho hi (set_any (by omega)) hx) hs hw h1) fun D σ H ⟨A, S, ρ, w, env, p⟩ =>
  at_seq (P := PostS X.K A H D) w env p (fun h => h) (fun _ _ h => h) fun x S1 xv H1 e1 w1 r1 p1 =>
    at_seq (P := PostS X.K A H D) w1 (env.mono e1) p1 (fun h => h) (fun _ _ h => h) fun v S2 ov H2 e2 w2 r2 p2 =>
      at_seq (P := PostS X.K A H D) w2 ((env.mono e1).mono e2) p2 (fun h => h) (fun _ _ h => h) fun i S3 iv H3 e3 w3 r3 p3 => by
        split at p3
        · rename_i S4 h4
          refine ⟨A, S3, v.th, i.th, x.th, S4, w3, r2.mono e3, r3, r1.mono (e2.trans e3), h4, fun H4 e4 w4 => ?_⟩
          have e := ((e1.trans e2).trans e3).trans e4
          exact p3 A σ H4 e w4 (env.mono e)
        · exact p3.elim

/-! ### x += e -/
def sAug (i : Nat) (g : Val → Val → Sto → Res Val) (f : Sx) : Ss := fun ρ S => match ρ[i]? with
  | some (some v) => (f ρ S).bind fun w S1 => (g v w.th S1).bind fun z S2 => .ok (.nx (ρ.set i (some z.th))) S2
  | _ => .no
theorem sAugR (i : Nat) {x : Str} {op : Operator} {g : Val → Val → Sto → Res Val} {pos' : Pos} (hN : X.N.Nodup) (hi : X.N[i]? = some x) (hx : Loc X.env.scope x) (h : ORul X (inplaceOp op) g) (he : PE X a (tE X.K fa))
    (hf : X.fn x = true ∨ X.env.scope.names.lookup x = some .local := by first | exact .inl rfl | exact .inr rfl | assumption) : PS X (.AugAssign (.Name x pos') op a pos) (tS X.K (sAug i g fa)) :=
  PSi (ps_aug (i := i) hN hi hx he (ti := rO X.K g) (fun pins s σ H x y v u Q I rv ru hq => h.op pins s σ H x y v u Q I rv ru hq) hf) fun D σ H ⟨A, S, ρ, w, env, p⟩ => by
    dsimp only [sAug] at p
    split at p
    · rename_i v hv
      obtain ⟨y, h1, h2⟩ := env.get i v hv
      refine ⟨y, h1, at_seq (P := PostS X.K A H D) w env p (fun h => h) (fun _ _ h => h) fun u S1 z H1 e1 w1 r1 p1 => ?_⟩
      refine ⟨A, S1, v, u.th, w1, h2.mono e1, r1, Post.seq (P := PostS X.K A H D) p1 (fun h => h) (fun _ _ h => h) fun t S2 tv H2 e2 w2 r2 p2 => ?_⟩
      have e := e1.trans e2
      exact p2 A _ H2 e w2 ((env.mono e).set r2)
    · exact p.elim
theorem oAugAdd : ORul X (inplaceOp .Add) (gInt (fun _ _ => true) fun i j => .int (i + j)) := oInt0 iop_add fun _ _ _ _ => .int _
theorem oAugSub : ORul X (inplaceOp .Sub) gSub := oInt0 iop_sub fun _ _ _ _ => .int _
end
end MV
set_option Elab.async false
set_option linter.all false
set_option maxRecDepth 100000
set_option maxHeartbeats 1000000
/-! Readings by mirrors: methods, built-ins. -/
namespace MV
open PySem PySem.Spec PyProof.Rows L2
section
variable {X : Cx} {K : Frg} {a b : Expr} {fa fb : Sx} {pos : Pos} {A A' A2 : Wd} {H H' H2 : Hp} {S S' : Sto} {Q : VK} {ρ : Envi} {σ : L2.St} {D : Ends}
/-! ### methods -/
def MRul (X : Cx) (id : String) (g : Val → List Val → Sto → Res Val) : Prop :=
  ∀ (pins : List (Addr × Obj)) (s : Shared) (σ : L2.St) (A : Wd) (S : Sto) (H : Hp) (x : V) (xs : List V) (u : Value) (us : List Value) (v : Val) (vs : List Val) (Q : VK), Inv X pins σ H s → Wf X.K A S H → Rv X.K A H x v → RvL X.K A H xs vs → RelV x u → Vals xs us →
    Post X.K A H Q (g v vs S) → wpAny (model X.prog X.w) X.A (call (.builtin id) (u :: us)) (EP X pins σ Q) X.xe s
def rM (K : Frg) (g : Val → List Val → Sto → Res Val) : V → List V → Hp → VK → Prop := fun x xs H Q => ∃ A S v vs, Wf K A S H ∧ Rv K A H x v ∧ RvL K A H xs vs ∧ Post K A H Q (g v vs S)
theorem MRul.mt {id : String} {g : Val → List Val → Sto → Res Val} (h : MRul X id g) : MtR X id (rM X.K g) := fun pins s σ H x xs u us Q I ru rus ⟨A, S, v, vs, w, r1, r2, p⟩ => h pins s σ A S H x xs u us v vs Q I w r1 r2 ru rus p
/-- what kind of thing a method is asked of -/
def tyB (T : String) (S : Sto) (v : Val) : Bool :=
  (T == "list" && (asL S v).isSome) || (T == "dict" && (asM S v).isSome) || (T == "str" && (match v with | .d (.str _) => true | _ => false))
/-- .. or a locked dict -/
def tyW (K : Frg) (T : String) (x : V) (H : Hp) : Prop := tyV K T x H ∨ (T = "dict" ∧ ∃ a o kvs, x = .ref a ∧ H a = some (.frz o (.dK kvs)))
theorem tyW_is {pins : List (Addr × Obj)} {s : Shared} {T : String} {x : V} {v : Value} (I : Inv X pins σ H s) (r : RelV x v) (ty : tyW X.K T x H) : s.TypeIs v T ∧ ∀ a, v = .ref a → ∃ ob, s.heap.get? a = some ob ∧ ob.dict = none := by
  rcases ty with ty | ⟨rfl, a, o, kvs, rfl, hk⟩
  · exact tyV_is I r ty
  · cases r
    obtain ⟨hs, hgd, hx, es, ep, vs, hdt, hsz, kv, hm⟩ := I.frzK hk
    refine ⟨⟨o, hgd, hx.1⟩, fun a e2 => ?_⟩
    cases e2
    exact ⟨o, hgd, hx.2.1⟩
section
variable {o e : Expr} {es : List Expr} {to : TE} {t : TA} {name : Str} {apos cpos : Pos} {T id : String} {r : V → List V → Hp → VK → Prop}
def tWM0 (K : Frg) (T : String) (r : V → List V → Hp → VK → Prop) (to : TE) : TE := fun σ H Q => to σ H fun x H1 => tyW K T x H1 ∧ r x [] H1 Q
def tWM (K : Frg) (T : String) (r : V → List V → Hp → VK → Prop) (to : TE) (t : TA) : TE := fun σ H Q => to σ H fun x H1 => tyW K T x H1 ∧ t σ H1 fun xs H2 => r x xs H2 Q
theorem pe_wm0 (pa : PlainAttrs T) (slot : Slot T name id) (hty : typeOf (.builtin id) = pure (.type "method_descriptor")) (hm : MtR X id r) (ho : PE X o to)
    (hbase : attributeBase o name X.env (eval o X.env) = eval o X.env := by rfl) (hline : (apos.endLine == cpos.line) = true := by rfl) : PE X (.Call (.Attribute o name apos) [] [] cpos) (tWM0 X.K T r to) := by
  refine ⟨fun pins s σ H Q I h => ?_⟩
  refine wpAny_Call_method0_late hbase hline (thn (ho.run pins s σ H _ I h) fun v s1 ⟨x, H1, I1, r1, ty, q1⟩ => ?_)
  obtain ⟨h1, h2⟩ := tyW_is I1 r1 ty
  exact ⟨T, id, pa, slot, hty, h1, h2, Calls.callWith_builtin rfl (PySem.evalArgs_none (hm pins s1 σ H1 x [] v [] Q I1 r1 .nil q1))⟩
theorem pe_wm (pa : PlainAttrs T) (slot : Slot T name id) (hty : typeOf (.builtin id) = pure (.type "method_descriptor")) (hm : MtR X id r) (ho : PE X o to) (ha : PA X (e :: es) t)
    (hbase : attributeBase o name X.env (eval o X.env) = eval o X.env := by rfl)
    (hfew : ((backTo cpos (starEach (e :: es) X.env)).all (fun x => !x.1) && (backToKw cpos (keywordEach [] X.env)).all (fun x => x.1.isSome)
      && decide ((e :: es).length + ([] : List Keyword).length + (if ([] : List Keyword).isEmpty then 0 else 1) < 30)) = true := by rfl)
    (hline : (apos.endLine == cpos.line) = true := by rfl) (hs : starEach (e :: es) X.env = (false, eval e X.env) :: starEach es X.env := by rfl) (hplain : (backTo cpos (starEach es X.env)).any (·.1) = false := by rfl) :
    PE X (.Call (.Attribute o name apos) (e :: es) [] cpos) (tWM X.K T r to t) := by
  refine ⟨fun pins s σ H Q I h => ?_⟩
  refine wpAny_Call_method_late hbase hfew hline rfl (thn (ho.run pins s σ H _ I h) fun v s1 ⟨x, H1, I1, r1, ty, q1⟩ => ?_)
  obtain ⟨h1, h2⟩ := tyW_is I1 r1 ty
  refine ⟨T, id, pa, slot, hty, h1, h2, ?_⟩
  have hA := ha.run cpos pins s1 σ H1 _ I1 q1
  rw [hs] at hA ⊢
  refine Calls.callWith_builtin (by show (false || (backTo cpos (starEach es X.env)).any (·.1)) = false; rw [hplain] <;> rfl) (Calls.evalArgs_plain ?_)
  exact thn hA fun us s2 ⟨vs, H2, I2, r2, q2⟩ => hm pins s2 σ H2 x vs v us Q I2 r1 r2 q2
end
theorem tyB_ok {T : String} {x : V} {v : Val} (w : Wf K A S H) (r : Rv K A H x v) (h : tyB T S v = true) : tyW K T x H := by
  unfold tyB at h
  rw [Bool.or_eq_true, Bool.or_eq_true, Bool.and_eq_true, Bool.and_eq_true, Bool.and_eq_true] at h
  rcases h with (⟨h1, h2⟩ | ⟨h1, h2⟩) | ⟨h1, h2⟩
  · obtain ⟨ds, hd⟩ := Option.isSome_iff_exists.mp h2
    obtain ⟨a, xs, rfl, g, _⟩ := asL_ok w r hd
    exact .inl (.inl ⟨eq_of_beq h1, xs, SqL.of g⟩)
  · obtain ⟨ds, hd⟩ := Option.isSome_iff_exists.mp h2
    obtain ⟨a, xs, rfl, g, _⟩ := asM_ok w r hd
    rcases g with g | ⟨o, g⟩
    · exact .inl (.inr (.inr (.inl ⟨eq_of_beq h1, .inl ⟨xs, g⟩⟩)))
    · exact .inr ⟨eq_of_beq h1, a, o, xs, rfl, g⟩
  · split at h2
    · rw [Rp.str_inv r]; exact .inl (eq_of_beq h1)
    · cases h2
def evMt (T : String) (g : Val → List Val → Sto → Res Val) (fo : Sx) (f : SA) : Sx := fun ρ S => (fo ρ S).bind fun v S1 => if tyB T S1 v.th = true then (f ρ S1).bind fun vs S2 => g v.th vs S2 else .no
section
variable {o e : Expr} {es : List Expr} {fo : Sx} {f : SA} {name : Str} {apos cpos : Pos} {T id : String} {g : Val → List Val → Sto → Res Val}
theorem eM (pa : PlainAttrs T) (slot : Slot T name id) (hty : typeOf (.builtin id) = pure (.type "method_descriptor")) (hm : MRul X id g) (ho : PE X o (tE X.K fo)) (ha : PA X (e :: es) (tAr X.K f))
    (hbase : attributeBase o name X.env (eval o X.env) = eval o X.env := by rfl)
    (hfew : ((backTo cpos (starEach (e :: es) X.env)).all (fun x => !x.1) && (backToKw cpos (keywordEach [] X.env)).all (fun x => x.1.isSome)
      && decide ((e :: es).length + ([] : List Keyword).length + (if ([] : List Keyword).isEmpty then 0 else 1) < 30)) = true := by rfl)
    (hline : (apos.endLine == cpos.line) = true := by rfl) (hs : starEach (e :: es) X.env = (false, eval e X.env) :: starEach es X.env := by rfl) (hplain : (backTo cpos (starEach es X.env)).any (·.1) = false := by rfl) :
    PE X (.Call (.Attribute o name apos) (e :: es) [] cpos) (tE X.K (evMt T g fo f)) := PEi (pe_wm pa slot hty hm.mt ho ha hbase hfew hline hs hplain) fun σ H Q ⟨A, S, ρ, w, env, p⟩ =>
  at_seq (P := Post X.K A H Q) w env p (fun h => h) (fun _ _ h => h) fun v S1 x H1 e1 w1 r1 p1 => by
    split at p1
    · rename_i c
      exact ⟨tyB_ok w1 r1 c, A, S1, ρ, w1, env.mono e1, PostA.seq (P := Post X.K A H Q) p1 (fun h => h) (fun _ _ h => h) fun vs S2 xs H2 e2 w2 r2 p2 => ⟨A, S2, v.th, vs, w2, r1.mono e2, r2, p2.shift (e1.trans e2) w2⟩⟩
    · exact p1.elim
theorem eM0 (pa : PlainAttrs T) (slot : Slot T name id) (hty : typeOf (.builtin id) = pure (.type "method_descriptor")) (hm : MRul X id g) (ho : PE X o (tE X.K fo))
    (hbase : attributeBase o name X.env (eval o X.env) = eval o X.env := by rfl) (hline : (apos.endLine == cpos.line) = true := by rfl) : PE X (.Call (.Attribute o name apos) [] [] cpos) (tE X.K (evMt T g fo aNil)) :=
  PEi (pe_wm0 pa slot hty hm.mt ho hbase hline) fun σ H Q ⟨A, S, ρ, w, env, p⟩ =>
  at_seq (P := Post X.K A H Q) w env p (fun h => h) (fun _ _ h => h) fun v S1 x H1 e1 w1 r1 p1 => by
    split at p1
    · rename_i c
      exact ⟨tyB_ok w1 r1 c, A, S1, v.th, [], w1, r1, .nil, p1.shift e1 w1⟩
    · exact p1.elim
end
/-- the list cell that v is -/
def cellL (S : Sto) : Val → Option (Nat × List PyData)
  | .c n => match S[n]? with
    | some (.lst ds) => some (n, ds)
    | _ => none
  | _ => none
theorem cellL_ok {x : V} {v : Val} {n : Nat} {ds : List PyData} (w : Wf K A S H) (r : Rv K A H x v) (h : cellL S v = some (n, ds)) : ∃ a xs, A.A[n]? = some a ∧ a ∈ A.A ∧ x = .ref a ∧ H a = some (.lst xs) ∧ RpL K A.V H xs ds := by
  cases v with
  | c m =>
    have h : (match S[m]? with
      | some (.lst es) => some (m, es)
      | _ => none) = some (n, ds) := h
    split at h
    · rename_i es q
      cases h
      obtain ⟨a, h1, rfl⟩ := r
      obtain ⟨xs, h2, h3⟩ := w.ok n a _ h1 q
      exact ⟨a, xs, h1, List.mem_of_getElem? h1, rfl, h2, h3⟩
    · cases h
  | _ => cases h
theorem Post.put {n : Nat} {a : Addr} {ds : List PyData} {xs : List V} {y : V} {d : PyData} (p : Post K A H Q (.ok (.d d) (S.set n (.lst ds)))) (w : Wf K A S H) (ha : A.A[n]? = some a) (r : RpL K A.V H xs ds) (ry : Rp K A.V H y d) : Q y (L2.upd H a (.lst xs)) := by
  have ma : a ∈ A.A := List.mem_of_getElem? ha
  exact p y _ (.upd ma) (w.upd ha ⟨xs, upd_same, r.mono (kp_upd ma)⟩) (ry.mono (kp_upd ma))
def gAppend (v : Val) (vs : List Val) (S : Sto) : Res Val := match cellL S v, vs with
  | some (n, ds), [.d y] => if ds.length < sizeLine then .ok (.d .none) (S.set n (.lst (ds ++ [y]))) else .no
  | _, _ => .no
theorem mAppend : MRul X "list.append" gAppend := by
  intro pins s σ A S H x xs u us v vs Q I wf rv rvs ru rus p
  unfold gAppend at p
  split at p
  · rename_i n ds y h1
    split at p
    · rename_i hl
      obtain ⟨a, ys, ha, ma, rfl, h2, h3⟩ := cellL_ok wf rv h1
      cases rvs with | cons r1 r2 => cases r2; exact mt_append pins s σ H _ _ u us Q I ru rus ⟨a, ys, _, rfl, rfl, h2, by rw [h3.length]; exact hl, p.put wf ha (h3.append (.cons r1 .nil)) .non⟩
    · exact p.elim
  · exact p.elim
def gExtend (v : Val) (vs : List Val) (S : Sto) : Res Val := match cellL S v, vs with
  | some (n, ds), [w] => match asL S w with
    | some es => if ds.length + es.length ≤ sizeLine then .ok (.d .none) (S.set n (.lst (ds ++ es))) else .no
    | none => .no
  | _, _ => .no
theorem mExtend : MRul X "list.extend" gExtend := by
  intro pins s σ A S H x xs u us v vs Q I wf rv rvs ru rus p
  unfold gExtend at p
  split at p
  · rename_i n ds y h1
    split at p
    · rename_i es h4
      split at p
      · rename_i hl
        obtain ⟨a, ys, ha, ma, rfl, h2, h3⟩ := cellL_ok wf rv h1
        cases rvs with | cons r1 r2 =>
          cases r2
          obtain ⟨b, zs, rfl, h5, h6⟩ := asL_ok wf r1 h4
          exact mt_extend pins s σ H _ _ u us Q I ru rus ⟨a, b, ys, zs, rfl, rfl, h2, h5, by rw [h3.length, h6.length]; exact hl, p.put wf ha (h3.append h6) .non⟩
      · exact p.elim
    · exact p.elim
  · exact p.elim
def gPop (v : Val) (vs : List Val) (S : Sto) : Res Val := match cellL S v, vs with
  | some (n, ds), [] => match ds[ds.length - 1]? with
    | some y => .ok (.d y) (S.set n (.lst ds.dropLast))
    | none => .no
  | some (n, ds), [.d (.int i)] => if -(2 ^ 63) ≤ i ∧ i < 2 ^ 63 then match seqIndex? i ds.length with
    | some k => match ds[k]? with
      | some y => .ok (.d y) (S.set n (.lst (ds.eraseIdx k)))
      | none => .no
    | none => .no else .no
  | _, _ => .no
theorem mPop : MRul X "list.pop" gPop := by
  intro pins s σ A S H x xs u us v vs Q I wf rv rvs ru rus p
  unfold gPop at p
  split at p
  · rename_i n ds h1
    split at p
    · rename_i y hy
      obtain ⟨a, ys, ha, ma, rfl, h2, h3⟩ := cellL_ok wf rv h1
      cases rvs
      obtain ⟨z, hz, rz⟩ := h3.get hy
      exact mt_pop pins s σ H _ _ u us Q I ru rus ⟨a, ys, z, rfl, rfl, h2, by rw [h3.length]; exact hz, p.put wf ha h3.dropLast rz⟩
    · exact p.elim
  · rename_i n ds i h1
    split at p
    · rename_i hi
      split at p
      · rename_i k hk
        split at p
        · rename_i y hy
          obtain ⟨a, ys, ha, ma, rfl, h2, h3⟩ := cellL_ok wf rv h1
          cases rvs with | cons r1 r2 =>
            cases r2
            obtain ⟨z, hz, rz⟩ := h3.get hy
            have e1 := Rp.int_inv r1
            subst e1
            exact mt_popAt pins s σ H _ _ u us Q I ru rus ⟨a, ys, i, k, z, rfl, rfl, h2, hi.1, hi.2, by rw [h3.length]; exact hk, hz, p.put wf ha (h3.eraseIdx k) rz⟩
        · exact p.elim
      · exact p.elim
    · exact p.elim
  · exact p.elim
def gInsert (v : Val) (vs : List Val) (S : Sto) : Res Val := match cellL S v, vs with
  | some (n, ds), [.d (.int i), .d y] => if ds.length < sizeLine ∧ 0 ≤ i ∧ i < 2 ^ 63 then .ok (.d .none) (S.set n (.lst (ds.take i.toNat ++ [y] ++ ds.drop i.toNat))) else .no
  | _, _ => .no
theorem mInsert : MRul X "list.insert" gInsert := by
  intro pins s σ A S H x xs u us v vs Q I wf rv rvs ru rus p
  unfold gInsert at p
  split at p
  · rename_i n ds i y h1
    split at p
    · rename_i hl
      obtain ⟨a, ys, ha, ma, rfl, h2, h3⟩ := cellL_ok wf rv h1
      cases rvs with | cons r0 r1 => cases r1 with | cons r1 r2 =>
        cases r2
        have e1 := Rp.int_inv r0
        subst e1
        exact mt_insert pins s σ H _ _ u us Q I ru rus ⟨a, ys, i, _, rfl, rfl, h2, by rw [h3.length]; exact hl.1, hl.2.1, hl.2.2, p.put wf ha (((h3.take _).append (.cons r1 .nil)).append (h3.drop _)) .non⟩
    · exact p.elim
  · exact p.elim

/-! ### built-ins -/
def intsOf : List PyData → Option (List Int)
  | [] => some []
  | .int i :: r => (intsOf r).map (i :: ·)
  | _ :: _ => none
theorem intsOf_ok : ∀ {ds : List PyData} {ns : List Int}, intsOf ds = some ns → ds = ns.map .int
  | [], _, h => by cases h; rfl
  | .int i :: r, ns, h => by
    unfold intsOf at h
    cases q : intsOf r with
    | none => rw [q] at h; cases h
    | some es => rw [q] at h; cases h; rw [intsOf_ok q]; rfl
theorem intsOf_map : ∀ ns : List Int, intsOf (ns.map .int) = some ns
  | [] => rfl
  | n :: ns => by
    show (intsOf (ns.map .int)).map (n :: ·) = _
    rw [intsOf_map ns]; rfl
def bolsOf : List PyData → Option (List Bool)
  | [] => some []
  | .bool i :: r => (bolsOf r).map (i :: ·)
  | _ :: _ => none
theorem bolsOf_ok : ∀ {ds : List PyData} {ns : List Bool}, bolsOf ds = some ns → ds = ns.map .bool
  | [], _, h => by cases h; rfl
  | .bool i :: r, ns, h => by
    unfold bolsOf at h
    cases q : bolsOf r with
    | none => rw [q] at h; cases h
    | some es => rw [q] at h; cases h; rw [bolsOf_ok q]; rfl
theorem bolsOf_map : ∀ ns : List Bool, bolsOf (ns.map .bool) = some ns
  | [] => rfl
  | n :: ns => by
    show (bolsOf (ns.map .bool)).map (n :: ·) = _
    rw [bolsOf_map ns]; rfl
/-- a list that may be read -/
def asR (S : Sto) (v : Val) : Option (List PyData) := match seqOf S v with
  | some (false, ds, _) => some ds
  | _ => none
theorem asR_ok {x : V} {v : Val} {ds : List PyData} (w : Wf K A S H) (r : Rv K A H x v) (h : asR S v = some ds) : ∃ a xs, x = .ref a ∧ SqL K H a xs ∧ RpL K A.V H xs ds := by
  unfold asR at h
  split at h
  · rename_i es g hq
    cases h
    obtain ⟨a, xs, e, r1, sq⟩ := seq_at hq w r
    exact ⟨a, xs, e, sq, r1⟩
  · cases h
def g1 (f : Sto → Val → Option PyData) : List Val → Sto → Res Val
  | [v], S => match f S v with
    | some d => .ok (.d d) S
    | none => .no
  | _, _ => .no
def fLen (S : Sto) (v : Val) : Option PyData := match v with
  | .d (.str z) => if z.length ≤ sizeLine then some (.int z.length) else none
  | v => match asM S v with
    | some ps => some (.int ps.length)
    | none => match seqOf S v with
      | some q => some (.int q.2.1.length)
      | none => none
theorem bLen : BRul X (.builtin "len") (g1 fLen) := by
  intro pins s σ A S H xs us vs Q I wf rvs rus p
  unfold g1 at p
  split at p
  · rename_i v _
    cases rvs with | cons r1 r2 =>
      cases r2
      split at p
      · rename_i d hd
        unfold fLen at hd
        split at hd
        · split at hd
          · rename_i hl
            cases hd
            exact call_len_str pins s σ H _ us Q I rus ⟨_, by rw [Rp.str_inv r1], hl, p _ H .refl wf (.int _)⟩
          · cases hd
        · split at hd
          · rename_i ps hps
            cases hd
            obtain ⟨a, kvs, rfl, h1, h2⟩ := asM_ok wf r1 hps
            obtain ⟨u, rfl, ru⟩ := vals1 rus
            cases ru
            exact d_len I h1 fun t s' I' => ⟨.int kvs.length, H, I', ⟨t, rfl⟩, by rw [h2.length]; exact p _ H .refl wf (.int _)⟩
          · split at hd
            · rename_i q hq
              cases hd
              obtain ⟨a, ys, rfl, h1, h2⟩ := seq_at (t := q.1) (ds := q.2.1) (g := q.2.2) hq wf r1
              refine call_len_seq pins s σ H _ us Q I rus ⟨a, ys, rfl, ?_, by rw [h1.length]; exact p _ H .refl wf (.int _)⟩
              cases ht : q.1 with
              | true => rw [ht] at h2; exact .inr h2
              | false => rw [ht] at h2; exact .inl h2
            · cases hd
      · exact p.elim
  · exact p.elim
def fAbs (_ : Sto) : Val → Option PyData
  | .d (.int i) => some (.int (if i < 0 then -i else i))
  | _ => none
theorem b1i {f : Value} {r : List V → Hp → VK → Prop} {F : Sto → Val → Option PyData} (hc : CallR X f r) (h : ∀ A S H x v d Q, Wf X.K A S H → Rv X.K A H x v → F S v = some d → (∀ y H', Ext A H A H' → Wf X.K A S H' → Rp X.K A.V H' y d → Q y H') → r [x] H Q) : BRul X f (g1 F) := by
  intro pins s σ A S H xs us vs Q I wf rvs rus p
  unfold g1 at p
  split at p
  · cases rvs with | cons r1 r2 =>
      cases r2
      split at p
      · rename_i d hd
        exact hc pins s σ H _ us Q I rus (h A S H _ _ d Q wf r1 hd p)
      · exact p.elim
  · exact p.elim
theorem bAbs : BRul X (.builtin "abs") (g1 fAbs) := b1i call_abs fun A S H x v d Q wf r h p => by
  unfold fAbs at h
  split at h
  · cases h; exact ⟨_, by rw [Rp.int_inv r], p _ H .refl wf (.int _)⟩
  · cases h
def fInt (_ : Sto) : Val → Option PyData
  | .d (.int i) => some (.int i)
  | .d (.bool b) => some (.int (if b then 1 else 0))
  | _ => none
theorem bInt : BRul X (.type "int") (g1 fInt) := b1i call_int1 fun A S H x v d Q wf r h p => by
  unfold fInt at h
  split at h
  · cases h; exact .inl ⟨_, by rw [Rp.int_inv r], p _ H .refl wf (.int _)⟩
  · cases h; exact .inr ⟨_, by rw [Rp.bl_inv r], p _ H .refl wf (.int _)⟩
  · cases h
def fTuple (S : Sto) (v : Val) : Option PyData := match seqOf S v with
  | some q => some (.tuple q.2.1)
  | none => none
theorem bTuple : BRul X (.type "tuple") (g1 fTuple) := b1i call_tuple_of fun A S H x v d Q wf r h p => by
  unfold fTuple at h
  split at h
  · rename_i q hq
    cases h
    obtain ⟨a, ys, rfl, h1, h2⟩ := seq_at (t := q.1) (ds := q.2.1) (g := q.2.2) hq wf r
    refine ⟨a, ys, rfl, ?_⟩
    cases ht : q.1 with
    | true =>
      rw [ht] at h2
      refine .inr ⟨h2, ?_⟩
      obtain ⟨t, ds, g⟩ := q
      dsimp only at ht
      subst ht
      cases v with
      | d y =>
        cases y <;> first | (cases hq; done) | skip
        cases hq
        exact p _ H .refl wf r
      | c n =>
        have hq : (match S[n]? with
          | some (.lst es) => some (false, es, [(n, es)])
          | _ => none) = some (true, ds, g) := hq
        split at hq <;> cases hq
      | z ds => cases hq
      | g cs i => cases hq
      | x => cases hq
      | f k => cases hq
    | false =>
      rw [ht] at h2
      exact .inl ⟨h2, fun l hl => p _ _ (.laid hl) (wf.laid hl) (.tup (.inl ⟨.inl upd_same, wf.off hl⟩) (h1.mono (Ext.laid hl).kp))⟩
  · cases h
def gList : List Val → Sto → Res Val
  | [v], S => match seqOf S v with
    | some q => .ok (.f (.lst q.2.1)) S
    | none => .no
  | _, _ => .no
theorem bList : BRul X (.type "list") gList := by
  intro pins s σ A S H xs us vs Q I wf rvs rus p
  unfold gList at p
  split at p
  · cases rvs with | cons r1 r2 =>
      cases r2
      split at p
      · rename_i q hq
        obtain ⟨a, ys, rfl, h1, h2⟩ := seq_at (t := q.1) (ds := q.2.1) (g := q.2.2) hq wf r1
        refine call_list_of pins s σ H _ us Q I rus ⟨a, ys, rfl, ?_, fun l hl => p.fresh wf hl h1⟩
        cases ht : q.1 with
        | true => rw [ht] at h2; exact .inr h2
        | false => rw [ht] at h2; exact .inl h2
      · exact p.elim
  · exact p.elim
def fSum (S : Sto) (v : Val) : Option PyData := match asR S v with
  | some ds => (intsOf ds).map fun ns => .int ns.sum
  | none => none
theorem bSum (hc : X.calm = true) : BRul X (.builtin "sum") (g1 fSum) := b1i (cr_sum hc) fun A S H x v d Q wf r h p => by
  unfold fSum at h
  split at h
  · rename_i ds hds
    obtain ⟨ns, hn, e⟩ := Option.map_eq_some_iff.mp h
    subst e
    obtain ⟨a, xs, rfl, h1, h2⟩ := asR_ok wf r hds
    rw [intsOf_ok hn] at h2
    have e := h2.ints
    subst e
    exact ⟨a, ns, rfl, h1, p _ H .refl wf (.int _)⟩
  · cases h
def fAll (S : Sto) (v : Val) : Option PyData := match asR S v with
  | some ds => (bolsOf ds).map fun ns => .bool (ns.all id)
  | none => none
theorem bAll (hc : X.calm = true) : BRul X (.builtin "all") (g1 fAll) := b1i (cr_all hc) fun A S H x v d Q wf r h p => by
  unfold fAll at h
  split at h
  · rename_i ds hds
    obtain ⟨ns, hn, e⟩ := Option.map_eq_some_iff.mp h
    subst e
    obtain ⟨a, xs, rfl, h1, h2⟩ := asR_ok wf r hds
    rw [bolsOf_ok hn] at h2
    have e := h2.bls
    subst e
    exact ⟨a, ns, rfl, h1, p _ H .refl wf (.bl _)⟩
  · cases h
def fAny (S : Sto) (v : Val) : Option PyData := match asR S v with
  | some ds => (bolsOf ds).map fun ns => .bool (ns.any id)
  | none => none
theorem bAny (hc : X.calm = true) : BRul X (.builtin "any") (g1 fAny) := b1i (cr_any hc) fun A S H x v d Q wf r h p => by
  unfold fAny at h
  split at h
  · rename_i ds hds
    obtain ⟨ns, hn, e⟩ := Option.map_eq_some_iff.mp h
    subst e
    obtain ⟨a, xs, rfl, h1, h2⟩ := asR_ok wf r hds
    rw [bolsOf_ok hn] at h2
    have e := h2.bls
    subst e
    exact ⟨a, ns, rfl, h1, p _ H .refl wf (.bl _)⟩
  · cases h
def topL : List Int → Option Int
  | [] => none
  | n :: ns => some (ns.foldl max n)
def lowL : List Int → Option Int
  | [] => none
  | n :: ns => some (ns.foldl min n)
theorem foldl_max : ∀ (ns : List Int) (n : Int), (ns.foldl max n = n ∨ ns.foldl max n ∈ ns) ∧ n ≤ ns.foldl max n ∧ ∀ y ∈ ns, y ≤ ns.foldl max n
  | [], n => ⟨.inl rfl, Int.le_refl _, by simp⟩
  | m :: ns, n => by
    obtain ⟨h1, h2, h3⟩ := foldl_max ns (max n m)
    rw [List.foldl_cons]
    refine ⟨?_, by omega, fun y hy => ?_⟩
    · rcases h1 with h1 | h1
      · rw [h1]
        by_cases c : n ≤ m
        · exact .inr (by rw [Int.max_eq_right c]; simp)
        · exact .inl (Int.max_eq_left (by omega))
      · exact .inr (List.mem_cons_of_mem _ h1)
    · rcases List.mem_cons.mp hy with rfl | hy
      · omega
      · exact h3 y hy
theorem foldl_min : ∀ (ns : List Int) (n : Int), (ns.foldl min n = n ∨ ns.foldl min n ∈ ns) ∧ ns.foldl min n ≤ n ∧ ∀ y ∈ ns, ns.foldl min n ≤ y
  | [], n => ⟨.inl rfl, Int.le_refl _, by simp⟩
  | m :: ns, n => by
    obtain ⟨h1, h2, h3⟩ := foldl_min ns (min n m)
    rw [List.foldl_cons]
    refine ⟨?_, by omega, fun y hy => ?_⟩
    · rcases h1 with h1 | h1
      · rw [h1]
        by_cases c : m ≤ n
        · exact .inr (by rw [Int.min_eq_right c]; simp)
        · exact .inl (Int.min_eq_left (by omega))
      · exact .inr (List.mem_cons_of_mem _ h1)
    · rcases List.mem_cons.mp hy with rfl | hy
      · omega
      · exact h3 y hy
theorem topL_ok {ns : List Int} {t : Int} (h : topL ns = some t) : t ∈ ns ∧ ∀ y ∈ ns, y ≤ t := by
  cases ns with
  | nil => cases h
  | cons n ns =>
    cases h
    obtain ⟨h1, h2, h3⟩ := foldl_max ns n
    refine ⟨?_, fun y hy => ?_⟩
    · rcases h1 with h1 | h1
      · rw [h1]; simp
      · exact List.mem_cons_of_mem _ h1
    · rcases List.mem_cons.mp hy with rfl | hy
      · exact h2
      · exact h3 y hy
theorem lowL_ok {ns : List Int} {t : Int} (h : lowL ns = some t) : t ∈ ns ∧ ∀ y ∈ ns, t ≤ y := by
  cases ns with
  | nil => cases h
  | cons n ns =>
    cases h
    obtain ⟨h1, h2, h3⟩ := foldl_min ns n
    refine ⟨?_, fun y hy => ?_⟩
    · rcases h1 with h1 | h1
      · rw [h1]; simp
      · exact List.mem_cons_of_mem _ h1
    · rcases List.mem_cons.mp hy with rfl | hy
      · exact h2
      · exact h3 y hy
/-! min, max of data -/
def allAlike (ds : List PyData) : Bool := ds.all fun x => nn x && SeqAt.shaped x && ds.all (PySem.W.alike x)
theorem allAlike_ok {ds : List PyData} (h : allAlike ds = true) : PySem.W.AlikeAll ds ∧ (∀ d ∈ ds, SeqAt.shaped d = true) := by
  have g : ∀ x ∈ ds, (nn x = true ∧ SeqAt.shaped x = true) ∧ ∀ y ∈ ds, PySem.W.alike x y = true := fun x hx => by
    have := List.all_eq_true.mp h x hx
    rw [Bool.and_eq_true, Bool.and_eq_true] at this
    exact ⟨this.1, List.all_eq_true.mp this.2⟩
  exact ⟨⟨fun x hx y hy => (g x hx).2 y hy, fun x hx e => by have := (g x hx).1.1; rw [e] at this; cases this⟩, fun d hd => (g d hd).1.2⟩
theorem shaped_layAll {ds : List PyData} (h : ∀ d ∈ ds, SeqAt.shaped d = true) : PyData.canLayAll0 ds = true := by
  induction ds with
  | nil => rfl
  | cons d ds ih =>
    unfold PyData.canLayAll0
    rw [SeqAt.canLay_of_shaped (h d (by simp)), ih fun e he => h e (List.mem_cons_of_mem _ he)]; rfl
theorem shaped_depAll {ds : List PyData} (h : ∀ d ∈ ds, SeqAt.shaped d = true) : PyData.depthAll ds ≤ 64 := by
  induction ds with
  | nil => simp [PyData.depthAll]
  | cons d ds ih =>
    rw [PyData.depthAll]
    have h1 := SeqAt.depth_of_shaped (h d (by simp))
    have h2 := ih fun e he => h e (List.mem_cons_of_mem _ he)
    omega
theorem minD_in (x : PyData) (xs : List PyData) : PySem.W.minD x xs ∈ x :: xs := by
  unfold PySem.W.minD
  induction xs generalizing x with
  | nil => simp
  | cons y ys ih =>
    rw [List.foldl_cons]
    have := ih (if PySem.W.dataLt y x then y else x)
    rcases List.mem_cons.mp this with e | e
    · rw [e]
      split <;> simp
    · simp [e]
theorem maxD_in (x : PyData) (xs : List PyData) : PySem.W.maxD x xs ∈ x :: xs := by
  unfold PySem.W.maxD
  induction xs generalizing x with
  | nil => simp
  | cons y ys ih =>
    rw [List.foldl_cons]
    have := ih (if PySem.W.dataLt x y then y else x)
    rcases List.mem_cons.mp this with e | e
    · rw [e]
      split <;> simp
    · simp [e]
/-- an item of a row that reads as d: the abstract one -/
theorem item_rp {pins : List (Addr × Obj)} {s : Shared} {σ : L2.St} {L : List Addr} {xs : List V} {its : List Value} {ds : List PyData} {i : Nat} {v : Value} {d : PyData} {h' : Heap} {bs : List Addr} (I : Inv X pins σ H s) (r : RpL X.K L H xs ds) (rv : Vals xs its) (sh : ∀ d ∈ ds, SeqAt.shaped d = true)
    (hal : PySem.W.AlikeAll ds) (hd : d ∈ ds) (hv : its[i]? = some v) (hr : Reads h' v d bs) (hk : ∀ b o, s.heap.get? b = some o → h'.get? b = some o) : ∃ x, RelV x v ∧ Rp X.K L H x d := by
  obtain ⟨x, hx, rx⟩ : ∃ x, xs[i]? = some x ∧ RelV x v := by
    have hi : i < xs.length := by rw [rv.length]; exact (List.getElem?_eq_some_iff.mp hv).1
    obtain ⟨u, hu, ru⟩ := rv.get (List.getElem?_eq_getElem hi)
    rw [hv] at hu
    cases hu
    exact ⟨_, List.getElem?_eq_getElem hi, ru⟩
  obtain ⟨e, he, re⟩ := r.getV hx
  have me : e ∈ ds := List.mem_of_getElem? he
  obtain ⟨as, ra⟩ := Dp.reads I e x v (Rp.dp _ _ (SeqAt.canLay_of_shaped (sh e me)) re) rx
  have e2 : e = d := PySem.W.alike_unique _ _ _ _ _ (hal.1 e me d hd) (PyProof.Rows.Reads.keeps hk ra) hr
  exact ⟨x, rx, e2 ▸ re⟩
def minDat (ds : List PyData) (S : Sto) : Res Val := match ds with
  | x :: xs => if allAlike (x :: xs) = true then .ok (.d (PySem.W.minD x xs)) S else .no
  | [] => .no
def maxDat (ds : List PyData) (S : Sto) : Res Val := match ds with
  | x :: xs => if allAlike (x :: xs) = true then .ok (.d (PySem.W.maxD x xs)) S else .no
  | [] => .no
theorem min_dat (hc : X.calm = true) (hu : X.A.units + 100 < cLine) {pins : List (Addr × Obj)} {s : Shared} {σ : L2.St} {v : Val} {x : V} {u : Value} {t : Bool} {ds : List PyData} {g : List (Nat × List PyData)} (I : Inv X pins σ H s) (wf : Wf X.K A S H) (r : Rv X.K A H x v) (ru : RelV x u) (hv : seqOf S v = some (t, ds, g))
    (p : Post X.K A H Q (minDat ds S)) : wpAny (model X.prog X.w) X.A (call (.builtin "min") [u]) (EP X pins σ Q) X.xe s := by
  cases ds with
  | nil => exact p.elim
  | cons y ys =>
    unfold minDat at p
    dsimp only at p
    split at p
    case isFalse => exact p.elim
    rename_i hal
    obtain ⟨al, sh⟩ := allAlike_ok hal
    obtain ⟨a, xs, rfl, h1, h2⟩ := seq_at hv wf r
    cases ru
    have hdp := shaped_depAll sh
    have lay := shaped_layAll sh
    cases t with
    | true =>
      obtain ⟨its, rv, ht, hz⟩ := I.tuple (show SqT X.K H a xs from h2)
      obtain ⟨as, rd⟩ := Dp.readsAll I (y :: ys) xs its (RpL.dp _ _ lay h1) rv
      refine PySem.W.min_tuple_data (I.ok.hd hc) (show s.heap.IsTuple a its.toArray from ht) (by simpa using rd) al (by omega) fun i v h' tk bs hv hr hk => ?_
      obtain ⟨z, rz, rp⟩ := item_rp I h1 rv sh al (minD_in y ys) (by simpa using hv) hr hk
      exact ⟨z, H, I.kept (t' := tk) hk, rz, p z H .refl wf rp⟩
    | false =>
      obtain ⟨its, rv, pl, hz⟩ := I.list (show SqL X.K H a xs from h2)
      obtain ⟨as, rd⟩ := Dp.readsAll I (y :: ys) xs its (RpL.dp _ _ lay h1) rv
      refine PySem.W.min_list_data (I.ok.hd hc) pl.isList (by simpa using rd) al (by omega) fun i v h' tk bs hv hr hk => ?_
      obtain ⟨z, rz, rp⟩ := item_rp I h1 rv sh al (minD_in y ys) (by simpa using hv) hr hk
      exact ⟨z, H, I.kept (t' := tk) hk, rz, p z H .refl wf rp⟩
theorem max_dat (hc : X.calm = true) (hu : X.A.units + 100 < cLine) {pins : List (Addr × Obj)} {s : Shared} {σ : L2.St} {v : Val} {x : V} {u : Value} {t : Bool} {ds : List PyData} {g : List (Nat × List PyData)} (I : Inv X pins σ H s) (wf : Wf X.K A S H) (r : Rv X.K A H x v) (ru : RelV x u) (hv : seqOf S v = some (t, ds, g))
    (p : Post X.K A H Q (maxDat ds S)) : wpAny (model X.prog X.w) X.A (call (.builtin "max") [u]) (EP X pins σ Q) X.xe s := by
  cases ds with
  | nil => exact p.elim
  | cons y ys =>
    unfold maxDat at p
    dsimp only at p
    split at p
    case isFalse => exact p.elim
    rename_i hal
    obtain ⟨al, sh⟩ := allAlike_ok hal
    obtain ⟨a, xs, rfl, h1, h2⟩ := seq_at hv wf r
    cases ru
    have hdp := shaped_depAll sh
    have lay := shaped_layAll sh
    cases t with
    | true =>
      obtain ⟨its, rv, ht, hz⟩ := I.tuple (show SqT X.K H a xs from h2)
      obtain ⟨as, rd⟩ := Dp.readsAll I (y :: ys) xs its (RpL.dp _ _ lay h1) rv
      refine PySem.W.max_tuple_data (I.ok.hd hc) (show s.heap.IsTuple a its.toArray from ht) (by simpa using rd) al (by omega) fun i v h' tk bs hv hr hk => ?_
      obtain ⟨z, rz, rp⟩ := item_rp I h1 rv sh al (maxD_in y ys) (by simpa using hv) hr hk
      exact ⟨z, H, I.kept (t' := tk) hk, rz, p z H .refl wf rp⟩
    | false =>
      obtain ⟨its, rv, pl, hz⟩ := I.list (show SqL X.K H a xs from h2)
      obtain ⟨as, rd⟩ := Dp.readsAll I (y :: ys) xs its (RpL.dp _ _ lay h1) rv
      refine PySem.W.max_list_data (I.ok.hd hc) pl.isList (by simpa using rd) al (by omega) fun i v h' tk bs hv hr hk => ?_
      obtain ⟨z, rz, rp⟩ := item_rp I h1 rv sh al (maxD_in y ys) (by simpa using hv) hr hk
      exact ⟨z, H, I.kept (t' := tk) hk, rz, p z H .refl wf rp⟩
def gMax : List Val → Sto → Res Val
  | [.d (.int i), .d (.int j)], S => .ok (.d (.int (if j > i then j else i))) S
  | [v], S => match (asR S v).bind intsOf with
    | some ns => match topL ns with
      | some t => .ok (.d (.int t)) S
      | none => .no
    | none => match seqOf S v with
      | some q => maxDat q.2.1 S
      | none => .no
  | _, _ => .no
theorem bMax (hc : X.calm = true) (hu : X.A.units + 100 < cLine) : BRul X (.builtin "max") gMax := by
  intro pins s σ A S H xs us vs Q I wf rvs rus p
  unfold gMax at p
  split at p
  · cases rvs with | cons r1 r2 => cases r2 with | cons r2 r3 => cases r3; exact call_max2 hc pins s σ H _ us Q I rus ⟨_, _, by rw [Rp.int_inv r1, Rp.int_inv r2], p _ H .refl wf (.int _)⟩
  · split at p
    · rename_i ns hns
      split at p
      · rename_i t ht
        cases rvs with | cons r1 r2 =>
          cases r2
          obtain ⟨ds, h1, h2⟩ := Option.bind_eq_some_iff.mp hns
          obtain ⟨a, ys, rfl, h3, h4⟩ := asR_ok wf r1 h1
          rw [intsOf_ok h2] at h4
          have e := h4.ints
          subst e
          obtain ⟨t1, t2⟩ := topL_ok ht
          refine cr_max hc pins s σ H _ us Q I rus ⟨a, ns, rfl, h3, List.length_pos_of_mem t1, fun m h5 h6 => ?_⟩
          have e : m = t := Int.le_antisymm (t2 m h5) (h6 t t1)
          rw [e]
          exact p _ H .refl wf (.int _)
      · exact p.elim
    · split at p
      · rename_i q hq
        cases rvs with | cons r1 r2 =>
        cases r2
        obtain ⟨u, rfl, ru⟩ := vals1 rus
        exact max_dat hc hu (t := q.1) (g := q.2.2) I wf r1 ru hq p
      · exact p.elim
  · exact p.elim
def gMin : List Val → Sto → Res Val
  | [.d (.int i), .d (.int j)], S => .ok (.d (.int (if j < i then j else i))) S
  | [v], S => match (asR S v).bind intsOf with
    | some ns => match lowL ns with
      | some t => .ok (.d (.int t)) S
      | none => .no
    | none => match seqOf S v with
      | some q => minDat q.2.1 S
      | none => .no
  | _, _ => .no
theorem bMin (hc : X.calm = true) (hu : X.A.units + 100 < cLine) : BRul X (.builtin "min") gMin := by
  intro pins s σ A S H xs us vs Q I wf rvs rus p
  unfold gMin at p
  split at p
  · cases rvs with | cons r1 r2 => cases r2 with | cons r2 r3 => cases r3; exact call_min2 hc pins s σ H _ us Q I rus ⟨_, _, by rw [Rp.int_inv r1, Rp.int_inv r2], p _ H .refl wf (.int _)⟩
  · split at p
    · rename_i ns hns
      split at p
      · rename_i t ht
        cases rvs with | cons r1 r2 =>
          cases r2
          obtain ⟨ds, h1, h2⟩ := Option.bind_eq_some_iff.mp hns
          obtain ⟨a, ys, rfl, h3, h4⟩ := asR_ok wf r1 h1
          rw [intsOf_ok h2] at h4
          have e := h4.ints
          subst e
          obtain ⟨t1, t2⟩ := lowL_ok ht
          refine cr_min hc pins s σ H _ us Q I rus ⟨a, ns, rfl, h3, List.length_pos_of_mem t1, fun m h5 h6 => ?_⟩
          have e : m = t := Int.le_antisymm (h6 t t1) (t2 m h5)
          rw [e]
          exact p _ H .refl wf (.int _)
      · exact p.elim
    · split at p
      · rename_i q hq
        cases rvs with | cons r1 r2 =>
        cases r2
        obtain ⟨u, rfl, ru⟩ := vals1 rus
        exact min_dat hc hu (t := q.1) (g := q.2.2) I wf r1 ru hq p
      · exact p.elim
  · exact p.elim
end
end MV
set_option Elab.async false
set_option linter.all false
set_option maxRecDepth 100000
set_option maxHeartbeats 1000000
/-! Readings by mirrors: sorted, isinstance, zip, enumerate. -/
namespace MV
open PySem PySem.Spec PyProof.Rows L2
/-! ### sorted -/
mutual
theorem reads_there {h : Heap} : ∀ {v : Value} {d : PyData} {as : List Addr}, Reads h v d as → ∀ b ∈ as, ∃ o, h.get? b = some o
  | _, _, _, .none, b, hb => by cases hb
  | _, _, _, .bool _, b, hb => by cases hb
  | _, _, _, .int _ _, b, hb => by cases hb
  | _, _, _, .str _ _, b, hb => by cases hb
  | _, _, _, .list h1 _ _ t, b, hb => by
    rcases List.mem_cons.mp hb with rfl | hb
    · exact ⟨_, h1⟩
    · exact readsAll_there t b hb
  | _, _, _, .tuple h1 _ _ t, b, hb => readsAll_there t b hb
  | _, _, _, .dict h1 _ _ t t', b, hb => by
    rcases List.mem_append.mp hb with hb | hb
    · rcases List.mem_cons.mp hb with rfl | hb
      · exact ⟨_, h1⟩
      · exact readsAll_there t b hb
    · exact readsAll_there t' b hb
theorem readsAll_there {h : Heap} : ∀ {v : List Value} {d : List PyData} {as : List Addr}, ReadsAll h v d as → ∀ b ∈ as, ∃ o, h.get? b = some o
  | _, _, _, .nil, b, hb => by cases hb
  | _, _, _, .cons t t', b, hb => by
    rcases List.mem_append.mp hb with hb | hb
    · exact reads_there t b hb
    · exact readsAll_there t' b hb
end
def sortOk (ds : List PyData) : Prop := PySem.W.AllAlike ds ∧ PySem.W.Sortable ds ∧ ds.length ≤ sizeLine ∧ ∀ d ∈ ds, SeqAt.shaped d = true
def sortD (ds : List PyData) : List PyData := ds.mergeSort (PySem.W.dataLe false id)
open Classical in
noncomputable def gSorted : List Val → Sto → Res Val
  | [v], S => match seqOf S v with
    | some q => if sortOk q.2.1 then .ok (.f (.lst (sortD q.2.1))) S else .no
    | none => .no
  | _, _ => .no
section
variable {X : Cx} {K : Frg} {a b : Expr} {fa fb : Sx} {pos : Pos} {A A' A2 : Wd} {H H' H2 : Hp} {S S' : Sto} {Q : VK} {ρ : Envi} {σ : L2.St} {D : Ends}
theorem rpl_each : ∀ {xs : List V} {us : List Value} {ds : List PyData}, RpL K A.V H xs ds → Vals xs us → PySem.W.EachIs (fun u d => ∃ x, RelV x u ∧ Rp K A.V H x d) us ds
  | _, _, _, .nil, .nil => .nil
  | _, _, _, .cons r t, .cons q p => .cons ⟨_, q, r⟩ (rpl_each t p)
theorem each_rpl : ∀ {us : List Value} {ds : List PyData}, PySem.W.EachIs (fun u d => ∃ x, RelV x u ∧ Rp K A.V H x d) us ds → ∃ xs, RpL K A.V H xs ds ∧ Vals xs us
  | _, _, .nil => ⟨[], .nil, .nil⟩
  | _, _, .cons ⟨x, q, r⟩ t => by
    obtain ⟨xs, h1, h2⟩ := each_rpl t
    exact ⟨x :: xs, .cons r h1, .cons q h2⟩
theorem shaped_lay {ds : List PyData} (h : ∀ d ∈ ds, SeqAt.shaped d = true) : PyData.canLayAll0 ds = true := by
  induction ds with
  | nil => rfl
  | cons d ds ih =>
    unfold PyData.canLayAll0
    rw [SeqAt.canLay_of_shaped (h d (by simp)), ih fun e he => h e (List.mem_cons_of_mem _ he)]; rfl
theorem each_reads {h : Heap} : ∀ {us : List Value} {ds : List PyData} {as : List Addr}, ReadsAll h us ds as → PySem.W.EachIs (fun u d => ∃ as, Reads h u d as) us ds
  | _, _, _, .nil => .nil
  | _, _, _, .cons r t => .cons ⟨_, r⟩ (each_reads t)
theorem bSorted (hu : X.A.units + 100 < cLine) : BRul X (.builtin "sorted") gSorted := by
  intro pins s σ A S H xs us vs Q I wf rvs rus p
  unfold gSorted at p
  split at p
  case h_2 => exact p.elim
  rename_i v _
  cases rvs with | cons r1 r2 =>
  cases r2
  split at p
  case h_2 => exact p.elim
  rename_i q hq
  split at p
  case isFalse => exact p.elim
  rename_i ok
  obtain ⟨al, so, hl, sh⟩ := ok
  obtain ⟨a, ys, rfl, h1, h2⟩ := seq_at (t := q.1) (ds := q.2.1) (g := q.2.2) hq wf r1
  obtain ⟨u, rfl, ru⟩ := vals1 rus
  cases ru
  generalize q.2.1 = ds at *
  have key : ∃ its o n T, (T = "list" ∨ T = "tuple") ∧ Vals ys its ∧ s.heap.get? a = some o ∧ o.cls = .type T ∧ o.data = .seq its.toArray n := by
    cases ht : q.1 with
    | true =>
      rw [ht] at h2
      obtain ⟨its, rv, ⟨o, e1, e2, n, e3⟩, _⟩ := I.tuple (show SqT X.K H a ys from h2)
      exact ⟨its, o, n, "tuple", .inr rfl, rv, e1, e2, e3⟩
    | false =>
      rw [ht] at h2
      obtain ⟨its, rv, ⟨o, n, e1, e2, _, e3⟩, _⟩ := I.list (show SqL X.K H a ys from h2)
      exact ⟨its, o, n, "list", .inl rfl, rv, e1, e2, e3⟩
  obtain ⟨its, o, n, T, hT, rv, e1, e2, e3⟩ := key
  have hlen : its.length = ds.length := by rw [← rv.length, h1.length]
  refine Calls.call_function_entry kind_sorted plain_sorted entry_sorted (args_sorted1 _) ?_
  unfold Builtin.«sorted»
  refine wpAny_bind (m := checkCount "sorted" 1 1 _) (wpAny_pure ?_)
  refine wpAny_bind (wpAny_collect_seq a hT e1 e2 e3 (fun h' hk => ?_) (by rw [List.size_toArray, hlen]; exact hl))
  refine wpAny_bind (wpAny_newList ?_ (by show its.length ≤ _; rw [hlen]; exact hl))
  have I1 : Inv X pins σ H { s with heap := h' } := I.kept (t' := s.toks) hk
  obtain ⟨as, rd⟩ := Dp.readsAll I1 ds ys its (RpL.dp ds ys (shaped_lay sh) h1) rv
  generalize hL : h'.objs.size = L
  have hnone : h'.get? L = none := Heap.get?_none_of_le (by rw [← hL]; exact Nat.le_refl _)
  have hkeep : ∀ b o, h'.get? b = some o → (h'.push { cls := .type "list", data := .seq its.toArray }).get? b = some o := fun b o e => Heap.get?_push_of_some _ e
  have hobj : (h'.push { cls := .type "list", data := .seq its.toArray }).get? L = some (seqObj "list" its.toArray 0) := by rw [← hL]; exact Heap.get?_push_size _ rfl
  refine wpAny_bind (wpAny_holding ?_)
  refine PySem.W.list_sort_data (vs := its) (bs := ds) (enc := id) (R := fun u d => ∃ x, RelV x u ∧ Rp X.K A.V H x d) (n := 0) hobj (rpl_each h1 rv) ?_ (by simpa using al) (by simpa using so) hl ?_ fun out ho eo => ?_
  · have z := each_reads rd
    have z2 : ∀ {us : List Value} {ds : List PyData}, PySem.W.EachIs (fun u d => ∃ as, Reads h' u d as) us ds → PySem.W.EachIs (fun v b => ∃ as, Reads (h'.push { cls := .type "list", data := .seq its.toArray }) v (id b) as ∧ L ∉ as) us ds := fun z => z.mono fun u d ⟨as, r⟩ => ⟨as, PyProof.Rows.Reads.keeps hkeep r, fun m => by
      obtain ⟨o, e⟩ := reads_there r L m
      rw [hnone] at e; cases e⟩
    exact z2 z
  · intro d hd
    have h64 := SeqAt.depth_of_shaped (sh d hd)
    show X.A.in1.units + 1 + d.depth < cLine
    have : X.A.in1.units = X.A.units + 1 := rfl
    omega
  · obtain ⟨zs, r3, r4⟩ := each_rpl eo
    obtain ⟨ep, he⟩ := sortedHeap_at (h := h'.push { cls := .type "list", data := .seq its.toArray }) (vs := its) (n := 0) (out := out.toArray) hobj
    refine wpAny_pure ⟨_, rfl, ?_⟩
    have kk : ∀ b u, h'.get? b = some u → (sortedHeap (h'.push { cls := .type "list", data := .seq its.toArray }) L its out.toArray).get? b = some u := fun b u e' => by
      have hlt := Heap.lt_size e'
      rw [sortedHeap_old (by rw [← hL]; exact Nat.ne_of_lt hlt) (by rw [Heap.size_push]; exact Nat.lt_succ_of_lt hlt)]
      exact hkeep b u e'
    have hp : H L = none := I1.hok.fresh (Nat.le_of_eq hL)
    refine ⟨.ref L, upd H L (.lst zs), I1.laid (t' := s.toks) kk (Nat.le_of_eq hL) ⟨?_, out, ep, r4, he⟩, rfl, p.fresh wf hp r3⟩
    rw [r4.length, ho]; exact hl

/-! ### isinstance -/
def kind (S : Sto) : Val → Option String
  | .d .none => some "NoneType"
  | .d (.bool _) => some "bool"
  | .d (.int _) => some "int"
  | .d (.str _) => some "str"
  | .d (.list _) => some "list"
  | .d (.tuple _) => some "tuple"
  | .d (.dict _) => some "dict"
  | .z _ => some "list"
  | .c n => match S[n]? with
    | some (.lst _) => some "list"
    | some (.dic _) => some "dict"
    | some (.rcd _) => some "dict"
    | some (.nls _) => some "list"
    | _ => none
  | _ => none
theorem kind_ok {x : V} {v : Val} {t : String} (w : Wf K A S H) (r : Rv K A H x v) (h : kind S v = some t) : TyX K H x (.type t) := by
  cases v with
  | f k => cases h
  | g cs i => cases h
  | x => cases h
  | z ds =>
    cases h
    obtain ⟨a, xs, rfl, h1, _⟩ := r
    rcases h1 with ⟨h1 | ⟨o, h1⟩, _⟩ | (h1 | ⟨o, h1⟩) | ⟨o, its, n, h1, h2, _⟩
    · exact .base (.lst h1)
    · exact .base (.frz h1)
    · cases h1
    · cases h1
    · exact .kList h1 h2
  | c n =>
    obtain ⟨a, ha, rfl⟩ := r
    have h : (match S[n]? with
      | some (.lst _) => some "list"
      | some (.dic _) => some "dict"
      | some (.rcd _) => some "dict"
      | some (.nls _) => some "list"
      | _ => none) = some t := h
    split at h
    · rename_i ds q
      cases h
      obtain ⟨xs, h2, _⟩ := w.ok n a _ ha q
      exact .base (.lst h2)
    · rename_i ds q
      cases h
      obtain ⟨xs, h2, _⟩ := w.ok n a _ ha q
      exact .base (.dK h2)
    · rename_i ds q
      cases h
      obtain ⟨xs, h2, _⟩ := w.ok n a _ ha q
      exact .base (.dK h2)
    · rename_i ds q
      cases h
      obtain ⟨xs, h2, _⟩ := w.ok n a _ ha q
      exact .base (.lst h2)
    · cases h
  | d y =>
    have r : Rp K A.V H x y := r
    cases r with
    | non => cases h; exact .base .non
    | bl b => cases h; exact .base (.bl b)
    | int b => cases h; exact .base (.int b)
    | str b => cases h; exact .base (.str b)
    | lst l t => cases h; exact .base (.lst l.1)
    | dic l n t =>
      cases h
      rcases l with l | ⟨o, l⟩
      · exact .base (.dK l)
      · exact .fDict l
    | tup l t =>
      cases h
      rcases l with ⟨h1 | h1, _⟩ | (h1 | ⟨o, h1⟩) | ⟨o, its, n, h1, h2, _⟩
      · exact .base (.tup h1)
      · exact h1.elim
      · cases h1
      · cases h1
      · exact .kTuple h1 h2
def isOf (T t : String) : Bool := t == T || (t == "bool" && T == "int")
def kinds6 : List String := ["NoneType", "bool", "int", "str", "list", "tuple", "dict"]
theorem kits : (kinds6.all fun t => (["bool", "int", "str", "list", "tuple", "dict"] : List String).all fun T => decide (kitB t T = some (isOf T t))) = true := by decide +kernel
theorem kind_in {v : Val} {t : String} (h : kind S v = some t) : t ∈ kinds6 := by
  unfold kind at h
  split at h <;> first | (cases h; simp [kinds6]; done) | skip
  · split at h <;> first | (cases h; simp [kinds6]; done) | (cases h; done)
  · cases h
theorem kit_at {t T : String} (h : t ∈ kinds6) (hT : T ∈ (["bool", "int", "str", "list", "tuple", "dict"] : List String)) : kitB t T = some (isOf T t) :=
  of_decide_eq_true (List.all_eq_true.mp (List.all_eq_true.mp kits t h) T hT)
def evIsi (T : String) (f : Sx) : Sx := fun ρ S => (f ρ S).bind fun v S1 => match kind S1 v.th with
  | some t => .ok (.d (.bool (isOf T t))) S1
  | none => .no
theorem eIsi {x : Str} {p p2 : Pos} {T : String} (hT : T ∈ (["bool", "int", "str", "list", "tuple", "dict"] : List String)) (hg : Gl X "isinstance") (hm : X.mg "isinstance" = none) (hg2 : Gl X x) (hm2 : X.mg x = none) (hv2 : bootBuiltins x = some (.type T)) (ha : PE X a (tE X.K fa))
    (hn2 : x ≠ "__name__" := by decide) (hd2 : (x == ("__debug__" : Str)) = false := by decide)
    (he : starEach [a, .Name x p2] X.env = (false, eval a X.env) :: starEach [.Name x p2] X.env := by rfl) (he2 : starEach [.Name x p2] X.env = (false, eval (.Name x p2) X.env) :: starEach [] X.env := by rfl) (hpl : (backTo pos (starEach [.Name x p2] X.env)).any (·.1) = false := by rfl) :
    PE X (.Call (.Name "isinstance" p) [a, .Name x p2] [] pos) (tE X.K (evIsi T fa)) :=
  PEi (pe_callB call_isi hg hm (by decide +kernel) (pa_cons ha (pa_cons (pe_bltn (v := .ty T) hg2 hm2 hv2 rfl hn2 hd2) pa_nil he2) he) (by decide) (by decide) he hpl) fun σ H Q ⟨A, S, ρ, w, env, p⟩ =>
  at_seq (P := Post X.K A H Q) w env p (fun h => h) (fun _ _ h => h) fun v S1 y H1 e1 w1 r1 p1 => by
    split at p1
    · rename_i t ht
      exact ⟨y, .ty T, .type t, .type T, isOf T t, rfl, .ty T, kind_ok w1 r1 ht, kit_ty (kit_at (kind_in ht) hT), p1 _ H1 e1 w1 (.bl _)⟩
    · exact p1.elim

/-! ### zip -/
def zipD (ds es : List PyData) : List PyData := (ds.zip es).map fun p => .tuple [p.1, p.2]
def gZip (S : Sto) : List Val → Option Src
  | [v, w] => match seqOf S v, seqOf S w with
    | some q, some r => if q.1 = r.1 then some ⟨zipD q.2.1 r.2.1, q.2.2 ++ r.2.2⟩ else none
    | _, _ => none
  | _ => none
theorem zipD_length (ds es : List PyData) : (zipD ds es).length = min ds.length es.length := by simp [zipD]
theorem zipD_get {ds es : List PyData} {i : Nat} {d e : PyData} (h1 : ds[i]? = some d) (h2 : es[i]? = some e) : (zipD ds es)[i]? = some (.tuple [d, e]) := by
  simp [zipD, List.zip, List.getElem?_zipWith, h1, h2]
theorem pair_new {x y : V} {d e : PyData} {T : Addr} (w : Wf K A S H) (hT : H T = none) (r1 : Rp K A.V H x d) (r2 : Rp K A.V H y e) : Ext A H A (upd H T (.tup [x, y])) ∧ Wf K A S (upd H T (.tup [x, y])) ∧ Rp K A.V (upd H T (.tup [x, y])) (.ref T) (.tuple [d, e]) :=
  ⟨.laid hT, w.laid hT, .tup (.inl ⟨.inl upd_same, w.off hT⟩) (.cons (r1.mono (Ext.laid hT).kp) (.cons (r2.mono (Ext.laid hT).kp) .nil))⟩
theorem src_zip {v u : Val} {S0 : Sto} {t : Bool} {ds es : List PyData} {g g' : List (Nat × List PyData)} {a b : Addr} (h : seqOf S0 v = some (t, ds, g)) (h' : seqOf S0 u = some (t, es, g')) :
    SrcW K (if t = true then RZ.ItzT K a b else Itz K a b) ⟨zipD ds es, g ++ g'⟩ (fun A H => Rv K A H (.ref a) v ∧ Rv K A H (.ref b) u) := by
  have both : ∀ {A : Wd} {S : Sto} {H : Hp}, Wf K A S H → (Rv K A H (.ref a) v ∧ Rv K A H (.ref b) u) → GOk S ⟨zipD ds es, g ++ g'⟩ → ∃ xs ys, RpL K A.V H xs ds ∧ RpL K A.V H ys es ∧ SqA K t H a xs ∧ SqA K t H b ys := by
    intro A S H w r gk
    obtain ⟨a', xs, e1, q1, s1⟩ := seq_stand h w r.1 fun p hp => gk p (List.mem_append_left _ hp)
    obtain ⟨b', ys, e2, q2, s2⟩ := seq_stand h' w r.2 fun p hp => gk p (List.mem_append_right _ hp)
    cases e1
    cases e2
    exact ⟨xs, ys, q1, q2, s1, s2⟩
  refine ⟨fun A H A' H' e r => ⟨r.1.kx e, r.2.kx e⟩, fun i A S H hi w r gk => ?_, fun A S H w r gk => ?_, fun i A S H x H' hi w r gk y => ?_⟩
  all_goals obtain ⟨xs, ys, q1, q2, s1, s2⟩ := both w r gk
  · rw [zipD_length] at hi
    obtain ⟨x, hx, _⟩ := q1.get (List.getElem?_eq_getElem (show i < ds.length by omega))
    obtain ⟨y, hy, _⟩ := q2.get (List.getElem?_eq_getElem (show i < es.length by omega))
    cases t with
    | true => exact ⟨xs, ys, x, y, s1, s2, hx, hy⟩
    | false => exact ⟨xs, ys, x, y, s1, s2, hx, hy⟩
  · rw [zipD_length]
    have l1 := q1.length
    have l2 := q2.length
    cases t with
    | true => exact ⟨xs, ys, s1, s2, by omega⟩
    | false => exact ⟨xs, ys, s1, s2, by omega⟩
  · have fin : ∃ T x' y', x = .ref T ∧ H T = none ∧ H' = upd H T (.tup [x', y']) ∧ xs[i]? = some x' ∧ ys[i]? = some y' := by
      cases t with
      | true => obtain ⟨T, x', y', e1, e2, e3, f1, f2⟩ := y; exact ⟨T, x', y', e1, e2, e3, f1 xs s1, f2 ys s2⟩
      | false => obtain ⟨T, x', y', e1, e2, e3, f1, f2⟩ := y; exact ⟨T, x', y', e1, e2, e3, f1 xs s1, f2 ys s2⟩
    obtain ⟨T, x', y', rfl, hT, rfl, f1, f2⟩ := fin
    obtain ⟨d, h1, r1⟩ := q1.getV f1
    obtain ⟨e, h2, r2⟩ := q2.getV f2
    obtain ⟨n1, n2, n3⟩ := pair_new (x := x') (y := y') w hT r1 r2
    exact ⟨_, zipD_get h1 h2, n1, n2, n3⟩
def iByS (g : Sto → List Val → Option Src) (f : SA) : SI := fun ρ S => (f ρ S).bind fun vs S1 => match g S1 vs with
  | some s => .ok s S1
  | none => .no
theorem iZ {e e2 : Expr} {f : SA} {p tpos : Pos} {elts : List Expr} {kk : Nat} (hg : Gl X "zip") (hm : X.mg "zip" = none) (ha : PA X [e, e2] (tAr X.K f))
    (hs : starEach [e, e2] X.env = (false, eval e X.env) :: starEach [e2] X.env := by rfl) (hpl : (backTo pos (starEach [e2] X.env)).any (·.1) = false := by rfl) :
    PI X (.Tuple elts kk tpos) (.Call (.Name "zip" p) [e, e2] [] pos) (tI X.K (iByS gZip f)) :=
  PIi (RZ.pi_zipA hg hm ha hs hpl) fun σ H R ⟨A, S, ρ, w, env, p⟩ => ⟨A, S, ρ, w, env, PostA.seq (P := PostI X.K A H R) p (fun h => h) (fun _ _ h => h) fun vs S1 xs H1 e1 w1 r1 p1 => by
    split at p1
    · rename_i s hs
      unfold gZip at hs
      split at hs
      · split at hs
        · rename_i q r hq hr
          split at hs
          · rename_i et
            cases hs
            cases r1 with | cons r1 r2 => cases r2 with | cons r2 r3 =>
              cases r3
              obtain ⟨t, ds, g⟩ := q
              obtain ⟨t', es, g'⟩ := r
              dsimp only at et
              subst et
              obtain ⟨a, xs, rfl, q1, s1⟩ := seq_at hq w1 r1
              obtain ⟨b, ys, rfl, q2, s2⟩ := seq_at hr w1 r2
              have fin := p1 _ _ H1 e1 w1 (src_zip (a := a) (b := b) hq hr) ⟨r1, r2⟩
              refine ⟨a, b, xs, ys, rfl, ?_⟩
              cases t with
              | true => exact .inr ⟨s1, s2, fin⟩
              | false => exact .inl ⟨s1, s2, fin⟩
          · cases hs
        · cases hs
      · cases hs
    · exact p1.elim⟩
end
end MV
set_option Elab.async false
set_option linter.all false
set_option maxRecDepth 100000
/-! Readings by mirrors: defs of the text, the end of a law. -/
namespace MV
open PySem PySem.Spec PyProof.Rows L2
/-- the name x calls a def that keeps the mirror m, by at most level k -/
structure Cal (P : Program) (w : World) (K : Frg) (mg : Str → Option Value) (base : Heap) (k : Nat) (x : Str) (m : Fn) : Prop where
  ex : ∃ (f : Addr) (fd : FuncData) (ps : List Str), FnG P w K mg base k f fd ps (spF K m) ∧ mg x = some (.ref f) ∧ PySem.W.keepIn K (.ref f) = true ∧ Binds K fd ps []
theorem hu_room {k : Nat} {A : Around} (hr : Room k A) : A.units + 100 < cLine := by have := hr.un; omega
section
variable {X : Cx} {K : Frg} {pos : Pos} {x : Str} {p : Pos} {e : Expr} {es : List Expr} {f : SA} {k j : Nat} {m : Fn}
theorem eCal (C : Cal X.prog X.w X.K X.mg X.base k x m) (hr : Room j X.A) (gd : X.A.guards = some []) (hk : k ≤ j) (hg : Gl X x) (ha : PA X (e :: es) (tAr X.K f)) (hdb : (x == ("__debug__" : Str)) = false := by decide)
    (he : starEach (e :: es) X.env = (false, eval e X.env) :: starEach es X.env := by rfl) (hpl : (backTo pos (starEach es X.env)).any (·.1) = false := by rfl) : PE X (.Call (.Name x p) (e :: es) [] pos) (tE X.K (evCall m f)) := by
  obtain ⟨fa, fd, ps, F, hm, hkp, hb⟩ := C.ex
  exact eF F (hr.mono hk) gd hg hm hkp hb ha hdb he hpl
theorem eCal0 (C : Cal X.prog X.w X.K X.mg X.base k x m) (hr : Room j X.A) (gd : X.A.guards = some []) (hk : k ≤ j) (hg : Gl X x) (hdb : (x == ("__debug__" : Str)) = false := by decide) : PE X (.Call (.Name x p) [] [] pos) (tE X.K (evCall m aNil)) := by
  obtain ⟨fa, fd, ps, F, hm, hkp, hb⟩ := C.ex
  exact eF0 F (hr.mono hk) gd hg hm hkp hb hdb
end
section
variable {P : Program} {w : World} {K : Frg} {mg : Str → Option Value} {base : Heap} {x qual : Str} {st : Stmt} {fa : Addr} {fd : FuncData} {N ps : List Str} {k np : Nat} {body : Ss}
theorem cal_mk (F : Fun K x qual st fa fd) (S : FnScope N ps (defScope st)) (hnp : ps.length = np) (hm : mg x = some (.ref fa)) (hb : Binds K fd ps [])
    (h : ∀ (cdv : Value) (A : Around) (outer : List PySem.Env) (s : Shared) (H : Hp) (E : XK), Room k (A.deeper (envOfC qual (defScope st) s.heap.objs.size fa cdv)) → A.guards = some [] → PSs (cxOf CX0 P w K mg base N qual (defScope st) fa cdv A outer s H E).nox (defBody st) (tS K body)) :
    Cal P w K mg base (k + 1) x (mkFn np N.length body) := ⟨fa, fd, ps, fn_ok F S hnp h, hm, F.kp, hb⟩
/-- no mirror at all: the base of a recursion -/
theorem cal_no (F : Fun K x qual st fa fd) (hm : mg x = some (.ref fa)) (hb : Binds K fd ps []) : Cal P w K mg base k x (fun _ _ => .no) := ⟨fa, fd, ps, ⟨fun _ _ _ _ h => by
  obtain ⟨_, _, _, _, _, h⟩ := h; exact h.elim, fun _ _ _ _ _ _ _ _ _ _ _ _ _ _ h => by
  obtain ⟨_, _, _, _, _, h⟩ := h; exact h.elim⟩, hm, F.kp, hb⟩
/-- the law's own promise, from its mirror at the script -/
theorem law_sp {m : Fn} {n : Nat} (h : ∀ ns : List Int, ns.length ≤ n → ∃ S, m [.z (ns.map .int)] [] = .ok (.d (.bool true)) S) (H : Hp) (a : Addr) (ns : List Int) (hl : ns.length ≤ n) (hO : Only H) (hS : SqL K H a (ns.map V.int)) :
    spF K m [.ref a] H (fun v _ => v = .bl true) fun _ _ _ => False := by
  obtain ⟨S, e⟩ := h ns hl
  have w0 : Wf K ⟨[], []⟩ [] H := ⟨rfl, .nil, fun n k h1 => by simp at h1, fun n a k h1 => by simp at h1, fun p hp => by cases hp⟩
  refine ⟨⟨[], []⟩, [], [.z (ns.map .int)], w0, .cons ⟨a, ns.map V.int, rfl, ?_, RpL.of_ints ns⟩ .nil, ?_⟩
  · rcases hS with hS | hS
    · exact .inl ⟨hS, by simp [Wd.V]⟩
    · exact .inr (.inr hS)
  · rw [e]
    exact fun v H' _ _ r => Rp.bl_inv r
end
/-! the end of a law -/
section
variable {P : Program} {w : World} {K : Frg} {mg mb : Str → Option Value} {k : Nat} {fa a : Addr} {fd : FuncData} {x : Str} {sp : Sp} {s1 : Shared} {us : List Value} {ns : List Int}
/-- the law's def called at an abstract heap in which no more than the script is told -/
theorem law_at (inK : K.In s1.heap) (nsM : s1.heap.Ns mainGlobals mg) (nsB : s1.heap.Ns builtinsNs mb) (bltn : ∀ y : Str, y ≠ "__name__" → mb y = bootBuiltins y) (lim : s1.heap.NoLimit) (g0 : s1.gens = #[])
    (obj : s1.heap.get? a = some { cls := .type "list", data := .seq us.toArray }) (room : Room k callerA) (F : ∀ base : Heap, K.In base → base.Ns mainGlobals mg → FnG P w K mg base k fa fd [x] sp) (bnd : ∀ (s : Shared) (u : Value), BindsTo s fd ⟨[u], []⟩ [(x, u)])
    (H : Hp) (few : Only H) (promise : sp [.ref a] H (fun v _ => v = .bl true) E0) (told : HOk P w H s1.heap) (sole : ∀ b, H b ≠ none → b = a) (own : H a ≠ none → K.lookup a = none) :
    codeAny (model P w) callerA (.call (.ref fa) ⟨[.ref a], []⟩) (fun r s' => r = .ok (.ret (.bool true)) ∧ OldK s1.heap s'.heap ∧ s'.os = s1.os ∧ AllBare s'.gens) s1 := by
  have dictFree : ∀ {b : Addr} {o : Obj} {es : Array DictEntry} {ep : Nat}, s1.heap.get? b = some o → o.data = .dict es ep → H b = none := by
    intro b o es ep got isD
    by_cases z : H b = none
    · exact z
    · have eb := sole b z
      rw [eb, obj] at got
      cases got
      have bad : Data.seq us.toArray _ = Data.dict es ep := isD
      cases bad
  have space : ∀ {b : Addr} {m : Str → Option Value}, s1.heap.Ns b m → (hidT s1.heap H).Ns b m := by
    rintro b m ⟨o, es, ep, got, isD, rest⟩
    exact ⟨o, es, ep, hidT_get got (dictFree got isD), isD, rest⟩
  have written : K.In (hidT s1.heap H) := by
    intro b o got
    refine hidT_get (inK b o got) ?_
    by_cases z : H b = none
    · exact z
    · have eb := sole b z
      subst eb
      rw [own z] at got
      cases got
  obtain ⟨mc, lim1, lim2⟩ := lim
  have env0 : Env0 P w K mg (hidT s1.heap H) callerA [] s1 H := {
    frames := rfl
    mod := ⟨written, space nsM, ⟨mb, space nsB, bltn⟩, ⟨mc, space lim1, lim2⟩⟩
    bs := fun b o got => of_hidT got
    bsz := Nat.le_of_eq (hidT_size _ _)
    funs := trivial
    frf := fun b mem => by cases (show b ∈ ([] : List Addr) from mem)
    hok := told
    bare := .of_eq g0 }
  refine codeAny_mono ((F _ written (space nsM)).runs callerA [] s1 H ⟨[.ref a], []⟩ [.ref a] [.ref a] _ E0 room rfl env0 (bnd s1 (.ref a)) (.cons rfl .nil) promise) ?_
  intro res s2 q
  match res, q with
  | .ok .next, q => exact q.elim
  | .ok .brk, q => exact q.elim
  | .ok .cont, q => exact q.elim
  | .error e, q => exact q.elim
  | .ok (.ret u), ⟨v, H2, sameOs, bare2, un, told2, rel, isT⟩ =>
    have isT : v = .bl true := isT
    rw [isT] at rel
    obtain rfl : u = Value.bool true := rel
    refine ⟨rfl, OldK.of_keep ?_, sameOs, bare2⟩
    intro b o got
    by_cases z : H b = none
    · exact un.keep b o got z (fun mem => by cases (show b ∈ ([] : List Addr) from mem)) (by simp)
    · rcases few b with n | ⟨ob, xs, fz⟩
      · exact (z n).elim
      · have before := (told b _ fz).1
        have behind := (told2 b _ (un.frzs b ob _ fz)).1
        rw [got] at before
        cases before
        exact behind
theorem law_run (inK : K.In s1.heap) (nsM : s1.heap.Ns mainGlobals mg) (nsB : s1.heap.Ns builtinsNs mb) (bltn : ∀ y : Str, y ≠ "__name__" → mb y = bootBuiltins y) (lim : s1.heap.NoLimit) (g0 : s1.gens = #[])
    (obj : s1.heap.get? a = some { cls := .type "list", data := .seq us.toArray }) (are : IntsAre us ns) (short : ns.length ≤ sizeLine) (room : Room k callerA) (F : ∀ base : Heap, K.In base → base.Ns mainGlobals mg → FnG P w K mg base k fa fd [x] sp)
    (bnd : ∀ (s : Shared) (u : Value), BindsTo s fd ⟨[u], []⟩ [(x, u)]) (promise : ∀ H : Hp, Only H → SqL K H a (ns.map V.int) → sp [.ref a] H (fun v _ => v = .bl true) E0) :
    codeAny (model P w) callerA (.call (.ref fa) ⟨[.ref a], []⟩) (fun r s' => r = .ok (.ret (.bool true)) ∧ OldK s1.heap s'.heap ∧ s'.os = s1.os ∧ AllBare s'.gens) s1 := by
  have n := are.length
  have rel := vals_ints are
  by_cases wr : ∃ o, K.lookup a = some o
  · obtain ⟨o, wr⟩ := wr
    have got := inK a o wr
    rw [obj] at got
    cases got
    have few : Only (fun _ => none) := fun _ => Or.inl rfl
    refine law_at inK nsM nsB bltn lim g0 obj room F bnd (fun _ => none) few (promise _ few (Or.inr ⟨_, us.toArray, _, wr, rfl, rfl, rfl, by rw [List.size_toArray, n]; exact short, by simpa using rel⟩)) ?_ (fun b z => (z rfl).elim) (fun z => (z rfl).elim)
    intro b u z
    cases (show (none : Option HO) = some u from z)
  · have free : K.lookup a = none := by
      cases q : K.lookup a with
      | none => rfl
      | some o => exact (wr ⟨o, q⟩).elim
    let fz : HO := .frz { cls := .type "list", data := .seq us.toArray } (.lst (ns.map V.int))
    let H : Hp := fun b => if b = a then some fz else none
    have here : H a = some fz := if_pos rfl
    have there : ∀ b, b ≠ a → H b = none := fun b ne => if_neg ne
    have few : Only H := fun b => by
      by_cases e : b = a
      · subst e; exact Or.inr ⟨_, _, here⟩
      · exact Or.inl (there b e)
    refine law_at inK nsM nsB bltn lim g0 obj room F bnd H few (promise H few (Or.inl (Or.inr ⟨_, here⟩))) ?_ ?_ fun _ => free
    · intro b u z
      by_cases e : b = a
      · subst e
        rw [here] at z
        cases z
        exact ⟨obj, by rw [List.length_map]; exact short, us, _, rel, obj⟩
      · rw [there b e] at z
        cases z
    · intro b z
      by_cases e : b = a
      · exact e
      · exact (z (there b e)).elim
end
theorem walkG {l : PySem.W.OpenLaw} {n k : Nat} {q : Program} {loose : List Str} {XP : (Str → Option Value) → Heap → Prop} {YP : World → Heap → Prop} {d : DefRec} {K : Params → Frg} {sp : World → Sp} {x : Str} (hn : l.most = some n) (hn2 : n ≤ sizeLine) (hdf : d.params.defaults = []) (room : Room k callerA)
    (inK : ∀ (w : World) (h : Heap), YP w h → (K w.params).In h)
    (F : ∀ (w : World) (mg : Str → Option Value) (fa : Addr) (h : Heap), (K w.params).In h → h.Ns mainGlobals mg → mg d.name = some (.ref fa) → ∃ fd : FuncData, (∀ (s : Shared) (u : Value), BindsTo s fd ⟨[u], []⟩ [(x, u)]) ∧ ∀ base : Heap, (K w.params).In base → base.Ns mainGlobals mg → FnG l.prog w (K w.params) mg base k fa fd [x] (sp w))
    (promise : ∀ (w : World) (H : Hp) (a : Addr) (ns : List Int), ns.length ≤ n → Only H → SqL (K w.params) H a (ns.map V.int) → sp w [.ref a] H (fun v _ => v = .bl true) E0) : PySem.W.WalkO q loose XP YP l.row.toRowW d [] (fun f vs => PySem.call f vs) :=
  Att.attach_call hn hdf fun w s0 s1 mg mb fa o pm cd doc a us ns G Y ho hd hcd isLaw obj are short gens => by
    have written := inK w _ Y
    obtain ⟨fd, bnd, made⟩ := F w mg fa _ written G.T.g isLaw
    exact law_run written G.T.g G.T.b G.T.builtins G.T.nolimit gens obj are (Nat.le_trans short hn2) room made bnd fun H few seen => promise w H a ns short few seen
end MV
set_option Elab.async false
set_option linter.all false
set_option maxRecDepth 100000
set_option maxHeartbeats 1000000
/-! Readings by mirrors: several stores at once, texts of things, more methods. -/
namespace MV
open PySem PySem.Spec PyProof.Rows L2
section
variable {X : Cx} {K : Frg} {a b : Expr} {fa fb : Sx} {pos : Pos} {A A' A2 : Wd} {H H' H2 : Hp} {S S' : Sto} {Q : VK} {ρ : Envi} {σ : L2.St} {D : Ends}
/-! ### arguments of which some become cells -/
def PostAC (K : Frg) (A : Wd) (H : Hp) (Q : List V → Hp → Prop) : Res (List Val) → Prop
  | .ok vs S => ∀ A' xs H', Ext A H A' H' → Wf K A' S H' → RvL K A' H' xs vs → Q xs H'
  | .exc _ _ => False
  | .no => False
def tArC (K : Frg) (f : SA) : TA := fun σ H Q => At K σ H fun A ρ S => PostAC K A H Q (f ρ S)
theorem PostAC.shift {Q : List V → Hp → Prop} {r : Res (List Val)} (h : PostAC K A H Q r) (e : Ext A H A2 H2) : PostAC K A2 H2 Q r := by
  cases r with
  | ok v S1 => exact fun A' v H' e' w' r => h A' v H' (e.trans e') w' r
  | exc _ _ => exact h
  | no => exact h
theorem PostAC.seq {β : Type} {P : Res β → Prop} {Q : List V → Hp → Prop} {r : Res (List Val)} {g : List Val → Sto → Res β} (h : P (r.bind g)) (h0 : P .no → False) (h1 : ∀ e S, P (.exc e S) → False)
    (k : ∀ v S1 x A1 H1, Ext A H A1 H1 → Wf K A1 S1 H1 → RvL K A1 H1 x v → P (g v S1) → Q x H1) : PostAC K A H Q r := by
  cases r with
  | ok v S1 => exact fun A1 x H1 e w r => k v S1 x A1 H1 e w r h
  | exc e S => exact (h1 _ _ h).elim
  | no => exact (h0 h).elim
theorem aNC : PA X [] (tArC X.K aNil) := PAi pa_nil fun σ H Q ⟨A, S, ρ, w, env, p⟩ => p A [] H .refl w .nil
section
variable {e : Expr} {es : List Expr} {f : Sx} {g : SA}
theorem aVC (he : PE X e (tE X.K f)) (hr : PA X es (tArC X.K g)) (hs : starEach (e :: es) X.env = (false, eval e X.env) :: starEach es X.env := by rfl) : PA X (e :: es) (tArC X.K (aCons f g)) :=
  PAi (pa_cons he hr hs) fun σ H Q ⟨A, S, ρ, w, env, p⟩ => at_seq (P := PostAC X.K A H Q) w env p (fun h => h) (fun _ _ h => h) fun v S1 x H1 e1 w1 r1 p1 =>
    ⟨A, S1, ρ, w1, env.mono e1, PostAC.seq (P := PostAC X.K A H Q) p1 (fun h => h) (fun _ _ h => h) fun vs S2 xs A2 H2 e2 w2 r2 p2 => p2 _ _ H2 (e1.trans e2) w2 (.cons (r1.mono e2) r2)⟩
def aCell (f : Sx) (g : SA) : SA := fun ρ S => (f ρ S).bind fun v S1 => match v with
  | .f k => (g ρ (S1 ++ [k])).bind fun vs S2 => .ok (.c S1.length :: vs) S2
  | .g cs j => (g ρ (S1 ++ cs)).bind fun vs S2 => .ok (.c (S1.length + j) :: vs) S2
  | _ => .no
theorem aCC (he : PE X e (tE X.K f)) (hr : PA X es (tArC X.K g)) (hs : starEach (e :: es) X.env = (false, eval e X.env) :: starEach es X.env := by rfl) : PA X (e :: es) (tArC X.K (aCell f g)) :=
  PAi (pa_cons he hr hs) fun σ H Q ⟨A, S, ρ, w, env, p⟩ => by
    refine ⟨A, S, ρ, w, env, ?_⟩
    show Post X.K A H _ (f ρ S)
    dsimp only [aCell] at p
    cases q : f ρ S with
    | no => rw [q] at p; exact p
    | exc e S1 => rw [q] at p; exact p
    | ok v S1 =>
      rw [q] at p
      cases v with
      | d x => exact p.elim
      | c n => exact p.elim
      | z ds => exact p.elim
      | x => exact p.elim
      | g cs j =>
        intro as a H' e w1 hn hl hj
        have e2 : Ext A H (A.pushs as) H' := e.grows (K := X.K) hn
        refine ⟨A.pushs as, S1 ++ cs, ρ, w1, env.mono e2, PostAC.seq (P := PostAC X.K A H Q) p (fun h => h) (fun _ _ h => h) fun vs S2 xs A2 H2 e3 w2 r2 p2 => p2 _ _ H2 (e2.trans e3) w2 (.cons ⟨a, ?_, rfl⟩ r2)⟩
        refine e3.at_ ?_
        have l := w1.len
        simp [Wd.pushs] at l
        show (A.A ++ as)[S1.length + j]? = some a
        rw [List.getElem?_append_right (by omega)]
        rw [show S1.length + j - A.A.length = j by omega]; exact hj
      | f k =>
        intro a H' e w1 hn
        have e2 : Ext A H (A.push a) H' := e.grow hn
        refine ⟨A.push a, S1 ++ [k], ρ, w1, env.mono e2, PostAC.seq (P := PostAC X.K A H Q) p (fun h => h) (fun _ _ h => h) fun vs S2 xs A2 H2 e3 w2 r2 p2 => p2 _ _ H2 (e2.trans e3) w2 (.cons ⟨a, ?_, rfl⟩ r2)⟩
        refine e3.at_ ?_
        show (A.A ++ [a])[S1.length]? = some a
        rw [← w1.drop1.1.len]; simp
end
/-! ### a, b, .. = x, y, .. by a tuple -/
def setAll : Envi → List Nat → List Val → Envi
  | ρ, i :: is, v :: vs => setAll (ρ.set i (some v)) is vs
  | ρ, _, _ => ρ
def setSt : L2.St → List Nat → List V → L2.St
  | σ, i :: is, v :: vs => setSt (σ.set i (some v)) is vs
  | σ, _, _ => σ
theorem REnv.setAll : ∀ {is : List Nat} {ρ : Envi} {σ : L2.St} {xs : List V} {vs : List Val}, REnv K A H ρ σ → RvL K A H xs vs → REnv K A H (setAll ρ is vs) (setSt σ is xs)
  | [], _, _, _, _, e, _ => e
  | _ :: _, _, _, _, _, e, .nil => e
  | i :: is, _, _, _, _, e, .cons r rs => REnv.setAll (is := is) (e.set r) rs
def gNames (is : List Nat) : TGs := fun vs σ H Q => vs.length = is.length ∧ Q (setSt σ is vs) H
theorem gnN : PGs X [] (gNames []) := ⟨fun pins s σ H vs us Q I r h => pgs_nil.run pins s σ H vs us Q I r (by
  obtain ⟨e, q⟩ := h
  cases vs with
  | nil => exact ⟨rfl, q⟩
  | cons _ _ => cases e)⟩
theorem gnC {i : Nat} {is : List Nat} {x : Str} {es : List Expr} (hN : X.N.Nodup) (hi : X.N[i]? = some x) (hx : Loc X.env.scope x) (hr : PGs X es (gNames is)) (hf : X.fn x = true ∨ X.env.scope.names.lookup x = some .local := by first | exact .inl rfl | exact .inr rfl | assumption)
    (hs : (assignEach (.Name x pos :: es) X.env).map (·.2) = assign (.Name x pos) X.env :: (assignEach es X.env).map (·.2) := by rfl) : PGs X (.Name x pos :: es) (gNames (i :: is)) :=
  ⟨fun pins s σ H vs us Q I r h => (pgs_cons (pg_name hN hi hx hf) hr hs).run pins s σ H vs us Q I r (by
    obtain ⟨e, q⟩ := h
    cases vs with
    | nil => cases e
    | cons v vr => exact ⟨v, vr, rfl, by simpa using e, q⟩)⟩
def sMul (is : List Nat) (f : SA) : Ss := fun ρ S => (f ρ S).bind fun vs S1 => if vs.length = is.length ∧ vs.length ≤ 1000 then .ok (.nx (setAll ρ is vs)) S1 else .no
theorem sMulR {is : List Nat} {tes es : List Expr} {f : SA} {kt k2 : Nat} {pt p2 : Pos} (hc : X.calm = true) (ha : PA X es (tArC X.K f)) (hg : PGs X tes (gNames is))
    (hn : (assignEach tes X.env).length = is.length := by rfl) (hst : (assignEach tes X.env).findIdx? (·.1) = none := by rfl)
    (hs : swapsWithSole [.Tuple tes kt pt] (.Tuple es k2 p2) pos.line X.env = pure false := by rfl) (hw : swappedStores [.Tuple tes kt pt] (.Tuple es k2 p2) X.env = pure none := by rfl)
    (h1 : (assignEach [.Tuple tes kt pt] X.env).map (·.2) = [assign (.Tuple tes kt pt) X.env] := by rfl) : PS X (.Assign [.Tuple tes kt pt] (.Tuple es k2 p2) pos) (tS X.K (sMul is f)) :=
  PSi (ps_asg (pe_tup ha) (pg_tup hc hg hn hst) hs hw h1) fun D σ H ⟨A, S, ρ, w, env, p⟩ =>
    ⟨A, S, ρ, w, env, PostAC.seq (P := PostS X.K A H D) p (fun h => h) (fun _ _ h => h) fun vs S1 xs A1 H1 e1 w1 r1 p1 => by
      split at p1
      case isFalse => exact p1.elim
      rename_i c
      have hl : xs.length = vs.length := Paired.length r1
      refine ⟨by rw [hl]; exact line1000 c.2, fun q hq => ⟨q, xs, rfl, .inl (.inl upd_same), by rw [hl]; exact c.1, by rw [hl]; exact c.1, ?_⟩⟩
      have e2 := e1.trans (.laid (o := .tup xs) hq)
      exact p1 A1 _ _ e2 (w1.laid hq) (((env.mono e2)).setAll (r1.mono (Ext.laid hq)))⟩
/-! ### a, b, .. = x, y, .. of plain locals -/
theorem sParC (i j : Nat) {x y : Str} {f : SA} {px py pt : Pos} {kt k2 pt2} (hc : X.calm = true) (hN : X.N.Nodup) (hi : X.N[i]? = some x) (hj : X.N[j]? = some y) (hij : i ≠ j)
    (hx : X.env.scope.names.lookup x = some .local) (hy : X.env.scope.names.lookup y = some .local) (ha : PA X [a, b] (tArC X.K f)) (hs : swappedStores [.Tuple [.Name x px, .Name y py] kt pt] (.Tuple [a, b] k2 pt2) X.env = pure (some [x, y]) := by rfl) : PS X (.Assign [.Tuple [.Name x px, .Name y py] kt pt] (.Tuple [a, b] k2 pt2) pos) (tS X.K (sPar i j f)) := PSi (ps_par hc hN hi hj hij hx hy ha hs) fun D σ H ⟨A, S, ρ, w, env, p⟩ =>
  ⟨A, S, ρ, w, env, PostAC.seq (P := PostS X.K A H D) p (fun h => h) (fun _ _ h => h) fun vs S1 xs A1 H1 e1 w1 r1 p1 => by
    split at p1
    · cases r1 with | cons r1 r2 => cases r2 with | cons r2 r3 => cases r3; exact ⟨_, _, rfl, p1 A1 _ H1 e1 w1 (((env.mono e1).set r1).set r2)⟩
    · exact p1.elim⟩
def sPar3 (i j l : Nat) (f : SA) : Ss := fun ρ S => (f ρ S).bind fun vs S1 => match vs with
  | [u, v, w] => .ok (.nx (((ρ.set i (some u)).set j (some v)).set l (some w))) S1
  | _ => .no
theorem sPar3C (i j l : Nat) {x y z : Str} {c : Expr} {f : SA} {px py pz pt : Pos} {kt k2 pt2} (hc : X.calm = true) (hN : X.N.Nodup) (hi : X.N[i]? = some x) (hj : X.N[j]? = some y) (hl : X.N[l]? = some z) (hij : i ≠ j) (hil : i ≠ l) (hjl : j ≠ l)
    (hx : X.env.scope.names.lookup x = some .local) (hy : X.env.scope.names.lookup y = some .local) (hz : X.env.scope.names.lookup z = some .local) (ha : PA X [a, b, c] (tArC X.K f))
    (hs : swappedStores [.Tuple [.Name x px, .Name y py, .Name z pz] kt pt] (.Tuple [a, b, c] k2 pt2) X.env = pure (some [x, y, z]) := by rfl) : PS X (.Assign [.Tuple [.Name x px, .Name y py, .Name z pz] kt pt] (.Tuple [a, b, c] k2 pt2) pos) (tS X.K (sPar3 i j l f)) := PSi (ps_par3 hc hN hi hj hl hij hil hjl hx hy hz ha hs) fun D σ H ⟨A, S, ρ, w, env, p⟩ =>
  ⟨A, S, ρ, w, env, PostAC.seq (P := PostS X.K A H D) p (fun h => h) (fun _ _ h => h) fun vs S1 xs A1 H1 e1 w1 r1 p1 => by
    split at p1
    · cases r1 with | cons r1 r2 => cases r2 with | cons r2 r3 => cases r3 with | cons r3 r4 => cases r4; exact ⟨_, _, _, rfl, p1 A1 _ H1 e1 w1 ((((env.mono e1).set r1).set r2).set r3)⟩
    · exact p1.elim⟩
/-! ### what is never reached -/
theorem eNo (e : Expr) : PE X e (tE X.K fun _ _ => .no) := ⟨fun pins s σ H Q I h => by
  obtain ⟨A, S, ρ, w, env, p⟩ := h
  exact p.elim⟩
theorem sNo (st : Stmt) : PS X st (tS X.K fun _ _ => .no) := ⟨fun pins s σ H D I h => by
  obtain ⟨A, S, ρ, w, env, p⟩ := h
  exact p.elim⟩
/-! ### list.remove of whole numbers -/
def gRemove (v : Val) (vs : List Val) (S : Sto) : Res Val := match cellL S v, vs with
  | some (n, ds), [.d (.int k)] => match intsOf ds with
    | some ns => if k ∈ ns then .ok (.d .none) (S.set n (.lst ((ns.erase k).map .int))) else .no
    | none => .no
  | _, _ => .no
theorem mRemove : MRul X "list.remove" gRemove := by
  intro pins s σ A S H x xs u us v vs Q I wf rv rvs ru rus p
  unfold gRemove at p
  split at p
  · rename_i n ds k hc
    split at p
    · rename_i ns hns
      split at p
      · rename_i hk
        obtain ⟨a, ys, h1, h2, rfl, h3, h4⟩ := cellL_ok wf rv hc
        cases rvs with | cons r1 r2 =>
        cases r2
        have r1 : Rp X.K A.V H _ (.int k) := r1
        cases r1
        have e := intsOf_ok hns
        subst e
        have e2 := h4.ints
        subst e2
        have hlt := List.idxOf_lt_length_of_mem hk
        refine mt_remove pins s σ H _ _ u us Q I ru rus ⟨a, ns, k, ns.idxOf k, rfl, rfl, h3, ?_, ?_, ?_⟩
        · rw [List.getElem?_eq_getElem hlt, List.getElem_idxOf hlt]
        · intro m hm e
          have := List.not_of_lt_findIdx (p := (· == k)) (xs := ns) (i := m) (by simpa [List.idxOf] using hm)
          rw [List.getElem?_eq_getElem (by omega)] at e
          simp at this e
          exact this e
        · rw [← List.erase_eq_eraseIdx_of_idxOf rfl]
          exact p.put wf h1 (RpL.of_ints _) .non
      · exact p.elim
    · exact p.elim
  · exact p.elim
/-! ### texts of things -/
open Classical in
noncomputable def gRepr : List Val → Sto → Res Val
  | [v], S => match asD S v with
    | some d => if d.canLay0 = true ∧ d.showable = true ∧ d.shown.length ≤ sizeLine ∧ d.depth ≤ 64 then .ok (.d (.str d.shown)) S else .no
    | none => .no
  | _, _ => .no
theorem bRepr (hu : X.A.units + 100 < cLine) (gd : X.A.guards = some []) : BRul X (.builtin "repr") gRepr := by
  intro pins s σ A S H xs us vs Q I wf rvs rus p
  unfold gRepr at p
  split at p
  case h_2 => exact p.elim
  rename_i v _
  cases rvs with | cons r1 r2 =>
  cases r2
  split at p
  case h_2 => exact p.elim
  rename_i d hd
  split at p
  case isFalse => exact p.elim
  rename_i c
  obtain ⟨c1, c2, c3, c4⟩ := c
  have dp := asD_dp wf r1 hd c1
  obtain ⟨u, rfl, ru⟩ := vals1 rus
  obtain ⟨as, rd⟩ := Dp.reads I d _ u dp ru
  have fin : ∀ h' t k, (∀ b o, s.heap.get? b = some o → h'.get? b = some o) → EP X pins σ Q (.str d.shown t) { s with heap := h', toks := k } := fun h' t k kp =>
    ⟨.str d.shown, H, I.kept kp, ⟨t, rfl⟩, p _ H .refl wf (.str _)⟩
  have fin0 : EP X pins σ Q (.str d.shown s.toks) { s with toks := s.toks + 1 } := ⟨.str d.shown, H, I.tok _, ⟨_, rfl⟩, p _ H .refl wf (.str _)⟩
  cases d with
  | none => cases rd; simp only [PyData.shown] at fin0; exact PySem.P.repr_of_none fin0
  | bool b => cases rd; simp only [PyData.shown] at fin0; exact PySem.P.repr_of_bool fin0
  | int i =>
    cases rd
    simp only [PyData.shown] at fin0
    exact PySem.P.repr_of_int (by simpa [PyData.showable] using c2) fin0
  | str x =>
    cases rd
    simp only [PyData.shown] at fin0 c3
    exact PySem.P.repr_of_str fin0 c3
  | list ds =>
    cases rd
    all_goals exact repr_of_reads' (by constructor <;> assumption) c2 (fun z => by rw [PyData.hasDict_of_canLay _ c1] at z; cases z) gd (by omega) (fun _ _ h => h) (fun h' t k kp => fin h' t k kp) c3
  | tuple ds =>
    cases rd
    all_goals exact repr_of_reads' (by constructor <;> assumption) c2 (fun z => by rw [PyData.hasDict_of_canLay _ c1] at z; cases z) gd (by omega) (fun _ _ h => h) (fun h' t k kp => fin h' t k kp) c3
  | dict ps => simp [PyData.canLay0] at c1
end
end MV
set_option Elab.async false
set_option linter.all false
set_option maxRecDepth 100000
set_option maxHeartbeats 1000000
/-! dict(zip(s, t)) of two tuples; d.update(a list of pairs). -/
namespace MV
open PySem PySem.Spec PyProof.Rows L2
section
variable {prog : Program} {w : World} {A : Around} {E : Value → Shared → Prop} {s : Shared} {z TI TO T i1 i2 l1 l2 : Addr} {f t1 t2 : Bool} {oT : Obj} {k : Nat} {xs ys : Array Value}
/-- an iterator of a tuple (true) or a list (false), k items on -/
def Crs (t : Bool) (h : Heap) (it l : Addr) (k : Nat) (xs : Array Value) : Prop := match t with
  | true => h.IsTupleIter it l k ∧ h.IsTuple l xs
  | false => h.IsListIter it l k ∧ h.IsList l xs
def Srq (t : Bool) (h : Heap) (l : Addr) (xs : Array Value) : Prop := match t with
  | true => h.IsTuple l xs
  | false => h.IsList l xs
theorem Crs.at2 {t : Bool} {h h' : Heap} {it l : Addr} (c : Crs t h it l k xs) (e1 : ∀ o, h.get? it = some o → h'.get? it = some o) (e2 : ∀ o, h.get? l = some o → h'.get? l = some o) : Crs t h' it l k xs := by
  cases t with
  | true => exact ⟨c.1.at e1, c.2.at e2⟩
  | false => exact ⟨c.1.at e1, c.2.at e2⟩
theorem Crs.ext {t : Bool} {h h' : Heap} {it l a : Addr} (c : Crs t h it l k xs) (e : Heap.ExtBut a h h') (n1 : it ≠ a) (n2 : l ≠ a) : Crs t h' it l k xs := c.at2 (fun o q => e _ o n1 q) fun o q => e _ o n2 q
theorem Crs.itAt {t : Bool} {h : Heap} {it l : Addr} (c : Crs t h it l k xs) : ∃ o, h.get? it = some o := by
  cases t with
  | true => obtain ⟨⟨o, q, _⟩, _⟩ := c; exact ⟨o, q⟩
  | false => obtain ⟨⟨o, q, _⟩, _⟩ := c; exact ⟨o, q⟩
theorem Crs.srcAt {t : Bool} {h : Heap} {it l : Addr} (c : Crs t h it l k xs) : ∃ o, h.get? l = some o := by
  cases t with
  | true => obtain ⟨_, ⟨o, q, _⟩⟩ := c; exact ⟨o, q⟩
  | false => obtain ⟨_, ⟨o, q, _⟩⟩ := c; exact ⟨o, q⟩
theorem crs_item {t : Bool} {it l : Addr} {x : Value} {Q : Value → Shared → Prop} (c : Crs t s.heap it l k xs) (ne : l ≠ it) (hx : xs[k]? = some x) (fin : ∀ h', Crs t h' it l (k + 1) xs → Heap.SameBut it s.heap h' → Q x { s with heap := h' }) :
    wpAny (model prog w) A (Builtin.SmallTypes.nextOf (.ref it)) Q E s := by
  cases t with
  | true => exact RZ.nextOf_tuple_item c.1 c.2 hx fun h' b sb => fin h' ⟨b, c.2.at fun o q => sb.extBut _ o ne q⟩ sb
  | false => exact wpAny_nextOf_list_item c.1 c.2 hx fun h' b sb => fin h' ⟨b, c.2.at fun o q => sb.extBut _ o ne q⟩ sb
theorem crs_stop {t : Bool} {it l : Addr} {Q : Value → Shared → Prop} (hh : A.handled = none) (c : Crs t s.heap it l k xs) (hx : xs[k]? = none)
    (fin : ∀ h' e, Heap.ExtBut it s.heap h' → (∃ o, h'.get? e = some o ∧ o.cls = .type "StopIteration") → E (.ref e) { s with heap := h' }) : wpAny (model prog w) A (Builtin.SmallTypes.nextOf (.ref it)) Q E s := by
  cases t with
  | true => exact RZ.nextOf_tuple_end hh c.1 c.2 hx fin
  | false => exact wpAny_nextOf_list_end hh c.1 c.2 hx fin
theorem crs_make {t : Bool} {l : Addr} {Q : Value → Shared → Prop} (c : Srq t s.heap l xs) (fin : ∀ o, (∀ h : Heap, h.get? s.heap.objs.size = some o → Srq t h l xs → Crs t h s.heap.objs.size l 0 xs) → o.isFreed = false → Q (.ref s.heap.objs.size) { s with heap := s.heap.push o }) :
    wpAny (model prog w) A (pyIter (.ref l)) Q E s := by
  cases t with
  | true => exact wpAny_pyIter_tuple c (fin _ (fun h e q => ⟨⟨_, e, rfl, rfl⟩, q⟩) rfl)
  | false => exact wpAny_pyIter_list c (fin _ (fun h e q => ⟨⟨_, e, rfl, rfl⟩, q⟩) rfl)
theorem Srq.at {t : Bool} {h h' : Heap} {l : Addr} (c : Srq t h l xs) (e : ∀ o, h.get? l = some o → h'.get? l = some o) : Srq t h' l xs := by
  cases t with
  | true => exact Heap.IsTuple.at c e
  | false => exact Heap.IsList.at c e
/-- a zip over two of these whose last pair is still there -/
structure Held (t1 t2 : Bool) (h : Heap) (z TI TO T i1 i2 l1 l2 : Addr) (f : Bool) (oT : Obj) (k : Nat) (xs ys : Array Value) : Prop where
  zip : IsZipHeld h z TI TO T f
  last : h.get? T = some oT
  ins : IsPair h TI (.ref i1) (.ref i2)
  c1 : Crs t1 h i1 l1 k xs
  c2 : Crs t2 h i2 l2 k ys
/-- one with no pair given out -/
structure Loose (t1 t2 : Bool) (h : Heap) (z TI TO i1 i2 l1 l2 : Addr) (a b : Value) (k : Nat) (xs ys : Array Value) : Prop where
  zip : IsZip h z TI TO .none
  ins : IsPair h TI (.ref i1) (.ref i2)
  out : IsPair h TO a b
  c1 : Crs t1 h i1 l1 k xs
  c2 : Crs t2 h i2 l2 k ys
theorem held_next {x y : Value} {Q : Value → Shared → Prop} (D : ZipApart z TI TO i1 i2 l1 l2) (st : Held t1 t2 s.heap z TI TO T i1 i2 l1 l2 f oT k xs ys) (ex : xs[k]? = some x) (ey : ys[k]? = some y)
    (fin : ∀ h', IsZipHeld h' z TI TO T true → Crs t1 h' i1 l1 (k + 1) xs → Crs t2 h' i2 l2 (k + 1) ys → IsPair h' s.heap.objs.size x y → (∀ c o, c ≠ z → c ≠ i1 → c ≠ i2 → s.heap.get? c = some o → h'.get? c = some o) → Q (.ref s.heap.objs.size) { s with heap := h' }) :
    wpAny (model prog w) A (Builtin.«zip.__next__» ⟨[.ref z], []⟩) (fun r s' => ∃ v, r = .done (.ret v) ∧ Q v s') E s := by
  change wpAny _ _ (field (.ref z) 2 >>= _) _ _ _
  apply wpAny_bind
  refine wpAny_field st.zip rfl (x := .bool false) rfl ?_
  change wpAny _ _ (field (.ref z) 3 >>= _) _ _ _
  apply wpAny_bind
  refine wpAny_field st.zip rfl (x := .ref TI) rfl ?_
  apply wpAny_bind
  refine wpAny_seqItems st.ins rfl ?_
  change wpAny _ _ (Builtin.SmallTypes.ownedTupleIsFree (.ref z) >>= _) _ _ _
  apply wpAny_bind
  refine wpAny_tupleHeld_zip st.zip st.last ?_
  intro ha za sa
  have ka : ∀ c o, c ≠ z → s.heap.get? c = some o → ha.get? c = some o := fun c o n q => sa.extBut _ _ n q
  rw [if_neg Bool.false_ne_true]
  apply wpAny_bind
  rw [← Array.forIn_toList]
  simp only [List.forIn_cons, List.forIn_nil]
  apply wpAny_bind
  apply wpAny_bind
  refine wpAny_holding ?_
  change wpAny _ _ (Builtin.SmallTypes.nextOf (.ref i1) >>= _) _ _ _
  apply wpAny_bind
  refine crs_item (s := { s with heap := ha }) (st.c1.ext sa.extBut D.i1z D.l1z) D.l1i1 ex ?_
  intro hb b1 sb
  refine wpAny_pure (wpAny_pure ?_)
  apply wpAny_bind
  apply wpAny_bind
  refine wpAny_holding ?_
  change wpAny _ _ (Builtin.SmallTypes.nextOf (.ref i2) >>= _) _ _ _
  apply wpAny_bind
  refine crs_item (s := { s with heap := hb }) ((st.c2.ext sa.extBut D.i2z D.l2z).ext sb.extBut D.i12.symm D.l2i1) D.l2i2 ey ?_
  intro hc c2 sc
  refine wpAny_pure (wpAny_pure ?_)
  refine wpAny_pure ?_
  change wpAny _ _ (newTuple [x, y] >>= _) _ _ _
  apply wpAny_bind
  refine wpAny_newTuple (wpAny_pure ⟨_, rfl, ?_⟩)
  have size : hc.objs.size = s.heap.objs.size := by rw [sc.1, sb.1, sa.1]
  have kc : ∀ c o, c ≠ z → c ≠ i1 → c ≠ i2 → s.heap.get? c = some o → hc.get? c = some o := fun c o n1 n2 n3 q => sc.extBut _ _ n3 (sb.extBut _ _ n2 (ka c o n1 q))
  have pair : IsPair (hc.push { cls := .type "tuple", data := .seq #[x, y] }) hc.objs.size x y := Heap.get?_push_size _ rfl
  have res := fin (hc.push { cls := .type "tuple", data := .seq #[x, y] }) (Heap.get?_push_of_some _ (sc.extBut _ _ D.i2z.symm (sb.extBut _ _ D.i1z.symm za))) ((b1.ext sc.extBut D.i12 D.l1i2).at2 (fun o q => Heap.get?_push_of_some _ q) fun o q => Heap.get?_push_of_some _ q) (c2.at2 (fun o q => Heap.get?_push_of_some _ q) fun o q => Heap.get?_push_of_some _ q)
  rw [size] at pair
  have res2 := res pair fun c o n1 n2 n3 q => Heap.get?_push_of_some _ (kc c o n1 n2 n3 q)
  rw [← size] at res2
  exact res2
theorem held_stop {Q : PySem.Fin → Shared → Prop} (hh : A.handled = none) (D : ZipApart z TI TO i1 i2 l1 l2) (st : Held t1 t2 s.heap z TI TO T i1 i2 l1 l2 f oT k xs ys) (none1 : xs[k]? = none ∨ ys[k]? = none)
    (fin : ∀ h' e, (∀ c o, c ≠ z → c ≠ i1 → c ≠ i2 → s.heap.get? c = some o → h'.get? c = some o) → (∃ o, h'.get? e = some o ∧ o.cls = .type "StopIteration") → E (.ref e) { s with heap := h' }) : wpAny (model prog w) A (Builtin.«zip.__next__» ⟨[.ref z], []⟩) Q E s := by
  change wpAny _ _ (field (.ref z) 2 >>= _) _ _ _
  apply wpAny_bind
  refine wpAny_field st.zip rfl (x := .bool false) rfl ?_
  change wpAny _ _ (field (.ref z) 3 >>= _) _ _ _
  apply wpAny_bind
  refine wpAny_field st.zip rfl (x := .ref TI) rfl ?_
  apply wpAny_bind
  refine wpAny_seqItems st.ins rfl ?_
  change wpAny _ _ (Builtin.SmallTypes.ownedTupleIsFree (.ref z) >>= _) _ _ _
  apply wpAny_bind
  refine wpAny_tupleHeld_zip st.zip st.last ?_
  intro ha za sa
  have ka : ∀ c o, c ≠ z → s.heap.get? c = some o → ha.get? c = some o := fun c o n q => sa.extBut _ _ n q
  rw [if_neg Bool.false_ne_true]
  apply wpAny_bind
  rw [← Array.forIn_toList]
  simp only [List.forIn_cons, List.forIn_nil]
  apply wpAny_bind
  apply wpAny_bind
  refine wpAny_holding ?_
  change wpAny _ _ (Builtin.SmallTypes.nextOf (.ref i1) >>= _) _ _ _
  apply wpAny_bind
  by_cases q1 : xs[k]? = none
  · refine crs_stop (s := { s with heap := ha }) hh (st.c1.ext sa.extBut D.i1z D.l1z) q1 ?_
    intro hb e keep stop
    exact fin hb e (fun c o n1 n2 _ q => keep _ _ n2 (ka c o n1 q)) stop
  · obtain ⟨x, ex⟩ := Option.ne_none_iff_exists'.mp q1
    refine crs_item (s := { s with heap := ha }) (st.c1.ext sa.extBut D.i1z D.l1z) D.l1i1 ex ?_
    intro hb b1 sb
    refine wpAny_pure (wpAny_pure ?_)
    apply wpAny_bind
    apply wpAny_bind
    refine wpAny_holding ?_
    change wpAny _ _ (Builtin.SmallTypes.nextOf (.ref i2) >>= _) _ _ _
    apply wpAny_bind
    refine crs_stop (s := { s with heap := hb }) hh ((st.c2.ext sa.extBut D.i2z D.l2z).ext sb.extBut D.i12.symm D.l2i1) (none1.resolve_left q1) ?_
    intro hc e keep stop
    exact fin hc e (fun c o n1 n2 n3 q => keep _ _ n3 (sb.extBut _ _ n2 (ka c o n1 q))) stop
theorem held_py {x y : Value} {Q : Option Value → Shared → Prop} (D : ZipApart z TI TO i1 i2 l1 l2) (st : Held t1 t2 s.heap z TI TO T i1 i2 l1 l2 f oT k xs ys) (ex : xs[k]? = some x) (ey : ys[k]? = some y)
    (fin : ∀ h', IsZipHeld h' z TI TO T true → Crs t1 h' i1 l1 (k + 1) xs → Crs t2 h' i2 l2 (k + 1) ys → IsPair h' s.heap.objs.size x y → (∀ c o, c ≠ z → c ≠ i1 → c ≠ i2 → s.heap.get? c = some o → h'.get? c = some o) → Q (some (.ref s.heap.objs.size)) { s with heap := h' }) :
    wpAny (model prog w) A (pyNext (.ref z)) Q E s := by
  have ty : s.TypeIs (.ref z) "zip" := ⟨_, st.zip, rfl⟩
  unfold pyNext
  refine wpAny_bind (wpAny_attempt (wpAny_callSpecial?_slot (name := Str.ofString "__next__") ty PySem.F.slot_zip_next (wpAny_call_entry PySem.F.slot_zip_next ty PySem.F.entry_zip_next (held_next D st ex ey ?_) (PySem.F.args_zip_next_1 _))))
  intro h' a1 a2 a3 a4 a5
  exact wpAny_pure (fin h' a1 a2 a3 a4 a5)
theorem held_py_stop {Q : Option Value → Shared → Prop} (hh : A.handled = none) (D : ZipApart z TI TO i1 i2 l1 l2) (st : Held t1 t2 s.heap z TI TO T i1 i2 l1 l2 f oT k xs ys) (none1 : xs[k]? = none ∨ ys[k]? = none)
    (fin : ∀ h', (∀ c o, c ≠ z → c ≠ i1 → c ≠ i2 → s.heap.get? c = some o → h'.get? c = some o) → Q none { s with heap := h' }) : wpAny (model prog w) A (pyNext (.ref z)) Q E s := by
  have ty : s.TypeIs (.ref z) "zip" := ⟨_, st.zip, rfl⟩
  unfold pyNext
  refine wpAny_bind (wpAny_attempt (wpAny_callSpecial?_slot (name := Str.ofString "__next__") ty PySem.F.slot_zip_next (wpAny_call_entry PySem.F.slot_zip_next ty PySem.F.entry_zip_next (held_stop hh D st none1 ?_) (PySem.F.args_zip_next_1 _))))
  rintro h' e keep ⟨o, got, cls⟩
  exact wpAny_bind (wpAny_isInstance (T := "StopIteration") (b := true) ⟨o, got, cls⟩ isSubtype_stop (wpAny_pure (fin _ keep)))
theorem loose_next {x y a b : Value} {Q : Value → Shared → Prop} (D : ZipApart z TI TO i1 i2 l1 l2) (st : Loose t1 t2 s.heap z TI TO i1 i2 l1 l2 a b k xs ys) (ex : xs[k]? = some x) (ey : ys[k]? = some y)
    (fin : ∀ h', IsZip h' z TI TO (rawInt s.heap.objs.size) → Crs t1 h' i1 l1 (k + 1) xs → Crs t2 h' i2 l2 (k + 1) ys → IsPair h' s.heap.objs.size x y → (∀ c o, c ≠ z → c ≠ TO → c ≠ i1 → c ≠ i2 → s.heap.get? c = some o → h'.get? c = some o) → Q (.ref s.heap.objs.size) { s with heap := h' }) :
    wpAny (model prog w) A (Builtin.«zip.__next__» ⟨[.ref z], []⟩) (fun r s' => ∃ v, r = .done (.ret v) ∧ Q v s') E s := by
  change wpAny _ _ (field (.ref z) 2 >>= _) _ _ _
  apply wpAny_bind
  refine wpAny_field st.zip rfl (x := .bool false) rfl ?_
  change wpAny _ _ (field (.ref z) 3 >>= _) _ _ _
  apply wpAny_bind
  refine wpAny_field st.zip rfl (x := .ref TI) rfl ?_
  apply wpAny_bind
  refine wpAny_seqItems st.ins rfl ?_
  change wpAny _ _ (Builtin.SmallTypes.ownedTupleIsFree (.ref z) >>= _) _ _ _
  apply wpAny_bind
  unfold Builtin.SmallTypes.ownedTupleIsFree
  apply wpAny_bind
  refine wpAny_field st.zip rfl (x := .none) rfl (wpAny_pure ?_)
  simp only [if_true]
  apply wpAny_bind
  refine wpAny_rule ?_
  apply wpAny_bind
  refine wpAny_field st.zip rfl (x := .ref TO) rfl ?_
  apply wpAny_bind
  refine wpAny_setField_rec st.zip (by simp) fun ha (za : IsZip ha z TI TO .ellipsis) sa => ?_
  apply wpAny_bind
  simp only [List.zipIdx_cons, List.zipIdx_nil, List.forIn_cons, List.forIn_nil]
  apply wpAny_bind
  apply wpAny_bind
  refine wpAny_onRaise ?_
  change wpAny _ _ (Builtin.SmallTypes.nextOf (.ref i1) >>= _) _ _ _
  apply wpAny_bind
  refine crs_item (s := { s with heap := ha }) (st.c1.ext sa.extBut D.i1z D.l1z) D.l1i1 ex fun hb b1 sb => wpAny_pure ?_
  have ob : IsPair hb TO a b := sb.extBut _ _ D.TOi1 (sa.extBut _ _ D.TOz st.out)
  apply wpAny_bind
  refine wpAny_seqItems ob rfl ?_
  apply wpAny_bind
  refine wpAny_updateSeq_pair ob fun hc (oc : IsPair hc TO x b) sc => ?_
  apply wpAny_bind
  refine wpAny_letGo (wpAny_pure ?_)
  apply wpAny_bind
  apply wpAny_bind
  refine wpAny_onRaise ?_
  change wpAny _ _ (Builtin.SmallTypes.nextOf (.ref i2) >>= _) _ _ _
  apply wpAny_bind
  refine crs_item (s := { s with heap := hc }) (((st.c2.ext sa.extBut D.i2z D.l2z).ext sb.extBut D.i12.symm D.l2i1).ext sc.extBut D.TOi2.symm D.l2TO) D.l2i2 ey fun hd d2 sd => wpAny_pure ?_
  have od : IsPair hd TO x b := sd.extBut _ _ D.TOi2 oc
  apply wpAny_bind
  refine wpAny_seqItems od rfl ?_
  apply wpAny_bind
  refine wpAny_updateSeq_pair od fun he (oe : IsPair he TO x y) se => ?_
  apply wpAny_bind
  refine wpAny_letGo (wpAny_pure (wpAny_pure ?_))
  apply wpAny_bind
  refine wpAny_seqItems oe rfl ?_
  apply wpAny_bind
  refine wpAny_newTuple ?_
  have size : he.objs.size = s.heap.objs.size := by rw [se.1, sd.1, sc.1, sb.1, sa.1]
  have ze : IsZip he z TI TO .ellipsis := se.extBut _ _ D.TOz.symm (sd.extBut _ _ D.i2z.symm (sc.extBut _ _ D.TOz.symm (sb.extBut _ _ D.i1z.symm za)))
  have ke : ∀ c o, c ≠ z → c ≠ TO → c ≠ i1 → c ≠ i2 → s.heap.get? c = some o → he.get? c = some o := fun c o n1 n2 n3 n4 q => se.extBut _ _ n2 (sd.extBut _ _ n4 (sc.extBut _ _ n2 (sb.extBut _ _ n3 (sa.extBut _ _ n1 q))))
  have e1 : Crs t1 he i1 l1 (k + 1) xs := ((b1.ext sc.extBut D.TOi1.symm D.l1TO).ext sd.extBut D.i12 D.l1i2).ext se.extBut D.TOi1.symm D.l1TO
  have e2 : Crs t2 he i2 l2 (k + 1) ys := d2.ext se.extBut D.TOi2.symm D.l2TO
  have zlt : z < he.objs.size := Heap.lt_size ze
  change wpAny _ _ (Builtin.SmallTypes.ownedTupleHandOut (.ref z) (.ref he.objs.size) >>= _) _ _ _
  apply wpAny_bind
  unfold Builtin.SmallTypes.ownedTupleHandOut
  have zf : IsZip (he.push { cls := .type "tuple", data := .seq #[x, y] }) z TI TO .ellipsis := Heap.get?_push_of_some _ ze
  apply wpAny_bind
  refine wpAny_setField_rec zf (by simp) fun hg (zg : IsZip hg z TI TO (rawInt he.objs.size)) sg => ?_
  refine wpAny_setField_rec zg (by simp) fun hk (zk : IsZip hk z TI TO (rawInt he.objs.size)) sk => ?_
  have up : ∀ c o, c ≠ z → he.get? c = some o → hk.get? c = some o := fun c o n q => sk.extBut _ _ n (sg.extBut _ _ n (Heap.get?_push_of_some _ q))
  have pk : IsPair hk he.objs.size x y := sk.extBut _ _ (Nat.ne_of_gt zlt) (sg.extBut _ _ (Nat.ne_of_gt zlt) (Heap.get?_push_size _ rfl))
  rw [size] at zk pk
  refine wpAny_pure ⟨_, rfl, ?_⟩
  change Q (.ref he.objs.size) _
  rw [size]
  exact fin hk zk (e1.at2 (fun o => up _ o D.i1z) fun o => up _ o D.l1z) (e2.at2 (fun o => up _ o D.i2z) fun o => up _ o D.l2z) pk fun c o n1 n2 n3 n4 q => up c o n1 (ke c o n1 n2 n3 n4 q)
theorem loose_stop {a b : Value} {Q : PySem.Fin → Shared → Prop} (hh : A.handled = none) (D : ZipApart z TI TO i1 i2 l1 l2) (st : Loose t1 t2 s.heap z TI TO i1 i2 l1 l2 a b k xs ys) (none1 : xs[k]? = none ∨ ys[k]? = none)
    (fin : ∀ h' e, (∀ c o, c ≠ z → c ≠ TO → c ≠ i1 → c ≠ i2 → s.heap.get? c = some o → h'.get? c = some o) → (∃ o, h'.get? e = some o ∧ o.cls = .type "StopIteration") → E (.ref e) { s with heap := h' }) : wpAny (model prog w) A (Builtin.«zip.__next__» ⟨[.ref z], []⟩) Q E s := by
  change wpAny _ _ (field (.ref z) 2 >>= _) _ _ _
  apply wpAny_bind
  refine wpAny_field st.zip rfl (x := .bool false) rfl ?_
  change wpAny _ _ (field (.ref z) 3 >>= _) _ _ _
  apply wpAny_bind
  refine wpAny_field st.zip rfl (x := .ref TI) rfl ?_
  apply wpAny_bind
  refine wpAny_seqItems st.ins rfl ?_
  change wpAny _ _ (Builtin.SmallTypes.ownedTupleIsFree (.ref z) >>= _) _ _ _
  apply wpAny_bind
  unfold Builtin.SmallTypes.ownedTupleIsFree
  apply wpAny_bind
  refine wpAny_field st.zip rfl (x := .none) rfl (wpAny_pure ?_)
  simp only [if_true]
  apply wpAny_bind
  refine wpAny_rule ?_
  apply wpAny_bind
  refine wpAny_field st.zip rfl (x := .ref TO) rfl ?_
  apply wpAny_bind
  refine wpAny_setField_rec st.zip (by simp) fun ha (za : IsZip ha z TI TO .ellipsis) sa => ?_
  apply wpAny_bind
  simp only [List.zipIdx_cons, List.zipIdx_nil, List.forIn_cons, List.forIn_nil]
  apply wpAny_bind
  apply wpAny_bind
  refine wpAny_onRaise ?_
  change wpAny _ _ (Builtin.SmallTypes.nextOf (.ref i1) >>= _) _ _ _
  apply wpAny_bind
  by_cases q1 : xs[k]? = none
  · refine crs_stop (s := { s with heap := ha }) hh (st.c1.ext sa.extBut D.i1z D.l1z) q1 fun hb e sb ⟨oe, ge, ce⟩ => ?_
    have zb : IsZip hb z TI TO .ellipsis := sb _ _ D.i1z.symm za
    have ne : e ≠ z := fun x => by subst x; rw [zb] at ge; cases ge; simp at ce
    exact wpAny_setField_rec zb (by simp) fun hc _ sc => fin hc e (fun c o n1 _ n3 _ q => sc.extBut _ _ n1 (sb _ _ n3 (sa.extBut _ _ n1 q))) ⟨oe, sc.extBut _ _ ne ge, ce⟩
  · obtain ⟨x, ex⟩ := Option.ne_none_iff_exists'.mp q1
    refine crs_item (s := { s with heap := ha }) (st.c1.ext sa.extBut D.i1z D.l1z) D.l1i1 ex fun hb b1 sb => wpAny_pure ?_
    have ob : IsPair hb TO a b := sb.extBut _ _ D.TOi1 (sa.extBut _ _ D.TOz st.out)
    apply wpAny_bind
    refine wpAny_seqItems ob rfl ?_
    apply wpAny_bind
    refine wpAny_updateSeq_pair ob fun hc _ sc => ?_
    apply wpAny_bind
    refine wpAny_letGo (wpAny_pure ?_)
    apply wpAny_bind
    apply wpAny_bind
    refine wpAny_onRaise ?_
    change wpAny _ _ (Builtin.SmallTypes.nextOf (.ref i2) >>= _) _ _ _
    apply wpAny_bind
    refine crs_stop (s := { s with heap := hc }) hh (((st.c2.ext sa.extBut D.i2z D.l2z).ext sb.extBut D.i12.symm D.l2i1).ext sc.extBut D.TOi2.symm D.l2TO) (none1.resolve_left q1) fun hd e sd ⟨oe, ge, ce⟩ => ?_
    have zd : IsZip hd z TI TO .ellipsis := sd _ _ D.i2z.symm (sc.extBut _ _ D.TOz.symm (sb.extBut _ _ D.i1z.symm za))
    have ne : e ≠ z := fun x => by subst x; rw [zd] at ge; cases ge; simp at ce
    exact wpAny_setField_rec zd (by simp) fun he _ se => fin he e (fun c o n1 n2 n3 n4 q => se.extBut _ _ n1 (sd _ _ n4 (sc.extBut _ _ n2 (sb.extBut _ _ n3 (sa.extBut _ _ n1 q))))) ⟨oe, se.extBut _ _ ne ge, ce⟩
theorem loose_py {x y a b : Value} {Q : Option Value → Shared → Prop} (D : ZipApart z TI TO i1 i2 l1 l2) (st : Loose t1 t2 s.heap z TI TO i1 i2 l1 l2 a b k xs ys) (ex : xs[k]? = some x) (ey : ys[k]? = some y)
    (fin : ∀ h', IsZip h' z TI TO (rawInt s.heap.objs.size) → Crs t1 h' i1 l1 (k + 1) xs → Crs t2 h' i2 l2 (k + 1) ys → IsPair h' s.heap.objs.size x y → (∀ c o, c ≠ z → c ≠ TO → c ≠ i1 → c ≠ i2 → s.heap.get? c = some o → h'.get? c = some o) → Q (some (.ref s.heap.objs.size)) { s with heap := h' }) :
    wpAny (model prog w) A (pyNext (.ref z)) Q E s := by
  have ty : s.TypeIs (.ref z) "zip" := ⟨_, st.zip, rfl⟩
  unfold pyNext
  refine wpAny_bind (wpAny_attempt (wpAny_callSpecial?_slot (name := Str.ofString "__next__") ty PySem.F.slot_zip_next (wpAny_call_entry PySem.F.slot_zip_next ty PySem.F.entry_zip_next (loose_next D st ex ey ?_) (PySem.F.args_zip_next_1 _))))
  intro h' a1 a2 a3 a4 a5
  exact wpAny_pure (fin h' a1 a2 a3 a4 a5)
theorem loose_py_stop {a b : Value} {Q : Option Value → Shared → Prop} (hh : A.handled = none) (D : ZipApart z TI TO i1 i2 l1 l2) (st : Loose t1 t2 s.heap z TI TO i1 i2 l1 l2 a b k xs ys) (none1 : xs[k]? = none ∨ ys[k]? = none)
    (fin : ∀ h', (∀ c o, c ≠ z → c ≠ TO → c ≠ i1 → c ≠ i2 → s.heap.get? c = some o → h'.get? c = some o) → Q none { s with heap := h' }) : wpAny (model prog w) A (pyNext (.ref z)) Q E s := by
  have ty : s.TypeIs (.ref z) "zip" := ⟨_, st.zip, rfl⟩
  unfold pyNext
  refine wpAny_bind (wpAny_attempt (wpAny_callSpecial?_slot (name := Str.ofString "__next__") ty PySem.F.slot_zip_next (wpAny_call_entry PySem.F.slot_zip_next ty PySem.F.entry_zip_next (loose_stop hh D st none1 ?_) (PySem.F.args_zip_next_1 _))))
  rintro h' e keep ⟨o, got, cls⟩
  exact wpAny_bind (wpAny_isInstance (T := "StopIteration") (b := true) ⟨o, got, cls⟩ isSubtype_stop (wpAny_pure (fin _ keep)))
/-- where the zip stands after i pairs: nothing out yet, or its last pair still out -/
def ZAt (t1 t2 : Bool) (z TI TO i1 i2 l1 l2 d : Addr) (xs ys : Array Value) (i : Nat) (h : Heap) : Prop :=
  IsPair h TI (.ref i1) (.ref i2) ∧ Crs t1 h i1 l1 i xs ∧ Crs t2 h i2 l2 i ys ∧
    ((IsZip h z TI TO .none ∧ ∃ a b, IsPair h TO a b) ∨ ∃ T f oT, IsZipHeld h z TI TO T f ∧ h.get? T = some oT ∧ (T ≠ z ∧ T ≠ i1 ∧ T ≠ i2) ∧ T ≠ d)
theorem ZAt.frame {d : Addr} {h h' : Heap} {i : Nat} (n : z ≠ d ∧ TI ≠ d ∧ TO ≠ d ∧ i1 ≠ d ∧ i2 ≠ d ∧ l1 ≠ d ∧ l2 ≠ d) (st : ZAt t1 t2 z TI TO i1 i2 l1 l2 d xs ys i h) (k : ∀ b o, b ≠ d → h.get? b = some o → h'.get? b = some o) : ZAt t1 t2 z TI TO i1 i2 l1 l2 d xs ys i h' := by
  obtain ⟨n1, n2, n3, n4, n5, n6, n7⟩ := n
  obtain ⟨q1, q2, q3, q6⟩ := st
  refine ⟨k _ _ n2 q1, q2.at2 (fun o => k _ o n4) (fun o => k _ o n6), q3.at2 (fun o => k _ o n5) (fun o => k _ o n7), q6.imp ?_ ?_⟩
  · rintro ⟨w1, a, b, w2⟩
    exact ⟨k _ _ n1 w1, a, b, k _ _ n3 w2⟩
  · rintro ⟨T, f, oT, w1, w2, w3, w4⟩
    exact ⟨T, f, oT, k _ _ n1 w1, k _ _ w4 w2, w3, w4⟩
theorem ZAt.step {d : Addr} {i : Nat} {x y : Value} {Q : Option Value → Shared → Prop} (D : ZipApart z TI TO i1 i2 l1 l2) (st : ZAt t1 t2 z TI TO i1 i2 l1 l2 d xs ys i s.heap) (hd : d < s.heap.objs.size) (ex : xs[i]? = some x) (ey : ys[i]? = some y)
    (fin : ∀ T h', PairAt h' T x y → ZAt t1 t2 z TI TO i1 i2 l1 l2 d xs ys (i + 1) h' → (∀ b o, b ∉ [z, TO, i1, i2] → s.heap.get? b = some o → h'.get? b = some o) → Q (some (.ref T)) { s with heap := h' }) : wpAny (model prog w) A (pyNext (.ref z)) Q E s := by
  obtain ⟨q1, q2, q3, q6⟩ := st
  have big : ∀ {c o}, s.heap.get? c = some o → s.heap.objs.size ≠ c := fun e => Nat.ne_of_gt (Heap.lt_size e)
  have f1 : s.heap.objs.size ≠ i1 := by obtain ⟨_, e⟩ := q2.itAt; exact big e
  have f2 : s.heap.objs.size ≠ i2 := by obtain ⟨_, e⟩ := q3.itAt; exact big e
  rcases q6 with ⟨w1, a, b, w2⟩ | ⟨T, f, oT, w1, w2, ⟨w3, w4, w5⟩, w6⟩
  · refine loose_py D ⟨w1, q1, w2, q2, q3⟩ ex ey ?_
    intro h' c1 c3 c4 c5 kp
    refine fin _ _ (.inl ⟨_, c5, rfl, _, rfl⟩) ⟨kp _ _ D.TIz D.TITO D.TIi1 D.TIi2 q1, c3, c4, .inr ⟨_, false, _, c1, c5, ⟨big w1, f1, f2⟩, Nat.ne_of_gt hd⟩⟩ ?_
    intro c o hc e
    simp only [List.mem_cons, List.not_mem_nil, or_false, not_or] at hc
    exact kp c o hc.1 hc.2.1 hc.2.2.1 hc.2.2.2 e
  · refine held_py D ⟨w1, w2, q1, q2, q3⟩ ex ey ?_
    intro h' c1 c3 c4 c5 kp
    refine fin _ _ (.inl ⟨_, c5, rfl, _, rfl⟩) ⟨kp _ _ D.TIz D.TIi1 D.TIi2 q1, c3, c4, .inr ⟨T, true, oT, c1, kp _ _ w3 w4 w5 w2, ⟨w3, w4, w5⟩, w6⟩⟩ ?_
    intro c o hc e
    simp only [List.mem_cons, List.not_mem_nil, or_false, not_or] at hc
    exact kp c o hc.1 hc.2.2.1 hc.2.2.2 e
theorem ZAt.stop {d : Addr} {i : Nat} {Q : Option Value → Shared → Prop} (hh : A.handled = none) (D : ZipApart z TI TO i1 i2 l1 l2) (st : ZAt t1 t2 z TI TO i1 i2 l1 l2 d xs ys i s.heap) (e : xs[i]? = none ∨ ys[i]? = none)
    (fin : ∀ h', (∀ b o, b ∉ [z, TO, i1, i2] → s.heap.get? b = some o → h'.get? b = some o) → Q none { s with heap := h' }) : wpAny (model prog w) A (pyNext (.ref z)) Q E s := by
  obtain ⟨q1, q2, q3, q6⟩ := st
  rcases q6 with ⟨w1, a, b, w2⟩ | ⟨T, f, oT, w1, w2, ⟨w3, w4, w5⟩, w6⟩
  · refine loose_py_stop hh D ⟨w1, q1, w2, q2, q3⟩ e ?_
    intro h' kp
    refine fin h' ?_
    intro c o hc e
    simp only [List.mem_cons, List.not_mem_nil, or_false, not_or] at hc
    exact kp c o hc.1 hc.2.1 hc.2.2.1 hc.2.2.2 e
  · refine held_py_stop hh D ⟨w1, w2, q1, q2, q3⟩ e ?_
    intro h' kp
    refine fin h' ?_
    intro c o hc e
    simp only [List.mem_cons, List.not_mem_nil, or_false, not_or] at hc
    exact kp c o hc.1 hc.2.2.1 hc.2.2.2 e
def ZNew (t1 t2 : Bool) (z TI TO i1 i2 l1 l2 : Addr) (xs ys : Array Value) (h : Heap) : Prop :=
  (IsZip h z TI TO .none ∧ ∃ a b, IsPair h TO a b) ∧ IsPair h TI (.ref i1) (.ref i2) ∧ Crs t1 h i1 l1 0 xs ∧ Crs t2 h i2 l2 0 ys
theorem ZNew.at {h h' : Heap} (ok : ZNew t1 t2 z TI TO i1 i2 l1 l2 xs ys h) (k : ∀ b o, h.get? b = some o → h'.get? b = some o) : ZNew t1 t2 z TI TO i1 i2 l1 l2 xs ys h' := by
  obtain ⟨⟨w1, a, b, w2⟩, q1, q2, q3⟩ := ok
  exact ⟨⟨k _ _ w1, a, b, k _ _ w2⟩, k _ _ q1, q2.at2 (fun o => k _ o) fun o => k _ o, q3.at2 (fun o => k _ o) fun o => k _ o⟩
theorem zipX_arg (D : ZipApart z TI TO i1 i2 l1 l2) (e : xs.size = ys.size) : PairArg prog w "zip" z [z, TI, TO, i1, i2, l1, l2] [z, TO, i1, i2] xs.size (fun i k v => xs[i]? = some k ∧ ys[i]? = some v) (ZNew t1 t2 z TI TO i1 i2 l1 l2 xs ys) := by
  constructor
  case type => intro s ok; exact ⟨_, ok.1.1, rfl⟩
  case notDict => decide
  case keep => intro h h' ok k; exact ok.at k
  case there =>
    rintro h ⟨⟨w1, a, b, w2⟩, q1, q2, q3⟩ c hc
    simp only [List.mem_cons, List.not_mem_nil, or_false] at hc
    rcases hc with rfl | rfl | rfl | rfl | rfl | rfl | rfl
    · exact ⟨_, w1⟩
    · exact ⟨_, q1⟩
    · exact ⟨_, w2⟩
    · exact q2.itAt
    · exact q3.itAt
    · exact q2.srcAt
    · exact q3.srcAt
  case sub =>
    intro c hc
    simp only [List.mem_cons, List.not_mem_nil, or_false] at hc ⊢
    rcases hc with rfl | rfl | rfl | rfl <;> simp
  case noKeys => intro A s Q E hh ok fin; exact getAttrOr_miss_zip ok.1.1 rfl rfl rfl zip_no_keys (by decide +kernel) hh fin
  case iter =>
    intro A s d Q E hh ok hd off fin
    simp only [List.mem_cons, List.not_mem_nil, or_false, not_or] at off
    obtain ⟨n1, n2, n3, n4, n5, n6, n7⟩ := off
    refine wpAny_pyIter_zip ok.1.1 (fin z [z, TO, i1, i2] (ZAt t1 t2 z TI TO i1 i2 l1 l2 d xs ys) s.heap s.toks ?_ ⟨ok.2.1, ok.2.2.1, ok.2.2.2, .inl ok.1⟩ (fun _ _ e => e) fun _ => .inl)
    constructor
    case off =>
      simp only [List.mem_cons, List.not_mem_nil, or_false, not_or]
      exact ⟨n1, n3, n4, n5⟩
    case frame => intro i h h' st k; exact st.frame ⟨Ne.symm n1, Ne.symm n2, Ne.symm n3, Ne.symm n4, Ne.symm n5, Ne.symm n6, Ne.symm n7⟩ k
    case item =>
      intro i s1 Q1 E1 hi st hd1 fin1
      exact st.step D hd1 (Array.getElem?_eq_getElem hi) (Array.getElem?_eq_getElem (by rw [← e]; exact hi)) fun T h' p st' k => fin1 T _ _ h' s1.toks ⟨Array.getElem?_eq_getElem hi, Array.getElem?_eq_getElem (by rw [← e]; exact hi)⟩ p st' k
    case done =>
      intro s1 Q1 E1 st fin1
      exact st.stop hh D (.inl (Array.getElem?_eq_none (Nat.le_refl _))) fun h' k => fin1 h' s1.toks k
/-- zip(s, t) -/
theorem zip_laid {o1 o2 : Obj} {h h1 h2 h3 h4 h5 : Heap} (e1 : h1 = h.push o1) (e2 : h2 = h1.push o2) (e3 : h3 = h2.push { cls := .type "tuple", data := .seq #[.ref h.objs.size, .ref h1.objs.size] }) (e4 : h4 = h3.push { cls := .type "tuple", data := .seq #[.none, .none] })
    (e5 : h5 = h4.push { cls := .type "zip", data := .fields #[.none, .bool false, .bool false, .ref h2.objs.size, .ref h3.objs.size] }) (f1 : o1.isFreed = false) (f2 : o2.isFreed = false) (c1 : ∀ g : Heap, g.get? h.objs.size = some o1 → Srq t1 g l1 xs → Crs t1 g h.objs.size l1 0 xs) (c2 : ∀ g : Heap, g.get? (h.objs.size + 1) = some o2 → Srq t2 g l2 ys → Crs t2 g (h.objs.size + 1) l2 0 ys)
    (q1 : Srq t1 h l1 xs) (q2 : Srq t2 h l2 ys) : h4.objs.size = h.objs.size + 4 ∧ h5.objs.size = h.objs.size + 5 ∧ (∀ c o, h.get? c = some o → h5.get? c = some o) ∧ ZNew t1 t2 (h.objs.size + 4) (h.objs.size + 2) (h.objs.size + 3) h.objs.size (h.objs.size + 1) l1 l2 xs ys h5 := by
  have z1 : h1.objs.size = h.objs.size + 1 := by rw [e1, Heap.size_push]
  have z2 : h2.objs.size = h.objs.size + 2 := by rw [e2, Heap.size_push, z1]
  have z3 : h3.objs.size = h.objs.size + 3 := by rw [e3, Heap.size_push, z2]
  have z4 : h4.objs.size = h.objs.size + 4 := by rw [e4, Heap.size_push, z3]
  have z5 : h5.objs.size = h.objs.size + 5 := by rw [e5, Heap.size_push, z4]
  have u4 : ∀ c o, h4.get? c = some o → h5.get? c = some o := fun c o q => by rw [e5]; exact Heap.get?_push_of_some _ q
  have u3 : ∀ c o, h3.get? c = some o → h5.get? c = some o := fun c o q => u4 c o (by rw [e4]; exact Heap.get?_push_of_some _ q)
  have u2 : ∀ c o, h2.get? c = some o → h5.get? c = some o := fun c o q => u3 c o (by rw [e3]; exact Heap.get?_push_of_some _ q)
  have u1 : ∀ c o, h1.get? c = some o → h5.get? c = some o := fun c o q => u2 c o (by rw [e2]; exact Heap.get?_push_of_some _ q)
  have u0 : ∀ c o, h.get? c = some o → h5.get? c = some o := fun c o q => u1 c o (by rw [e1]; exact Heap.get?_push_of_some _ q)
  have p5 : h5.get? h4.objs.size = some { cls := .type "zip", data := .fields #[.none, .bool false, .bool false, .ref h2.objs.size, .ref h3.objs.size] } := by rw [e5]; exact Heap.get?_push_size _ rfl
  have p4 : h5.get? h3.objs.size = some { cls := .type "tuple", data := .seq #[.none, .none] } := u4 _ _ (by rw [e4]; exact Heap.get?_push_size _ rfl)
  have p3 : h5.get? h2.objs.size = some { cls := .type "tuple", data := .seq #[.ref h.objs.size, .ref h1.objs.size] } := u3 _ _ (by rw [e3]; exact Heap.get?_push_size _ rfl)
  have p2 : h5.get? h1.objs.size = some o2 := u2 _ _ (by rw [e2]; exact Heap.get?_push_size _ f2)
  have p1 : h5.get? h.objs.size = some o1 := u1 _ _ (by rw [e1]; exact Heap.get?_push_size _ f1)
  rw [z4, z2, z3] at p5
  rw [z3] at p4
  rw [z2, z1] at p3
  rw [z1] at p2
  exact ⟨z4, z5, u0, ⟨p5, _, _, p4⟩, p3, c1 _ p1 (q1.at fun o => u0 _ o), c2 _ p2 (q2.at fun o => u0 _ o)⟩
theorem meets_zipX (t1 t2 : Bool) (l1 l2 : Addr) (xs ys : Array Value) : Meets (Builtin.«zip.__new__» ⟨[.type "zip", .ref l1, .ref l2], []⟩) (fun _ R s => Srq t1 s.heap l1 xs ∧ Srq t2 s.heap l2 ys ∧
      ∀ h', ZNew t1 t2 (s.heap.objs.size + 4) (s.heap.objs.size + 2) (s.heap.objs.size + 3) s.heap.objs.size (s.heap.objs.size + 1) l1 l2 xs ys h' → h'.objs.size = s.heap.objs.size + 5 → (∀ c o, s.heap.get? c = some o → h'.get? c = some o) → R (.ok (.ret (.ref (s.heap.objs.size + 4)))) { s with heap := h' }) :=
  .of_wp fun prog w A R s h => by
    obtain ⟨hp, g, d, tk, os⟩ := s; obtain ⟨q1, q2, fin⟩ := h
    have hsub := sub_zip
    cases t1 with
    | true =>
      have Q1 : Heap.IsTuple (Shared.heap ⟨hp, g, d, tk, os⟩) l1 xs := q1
      cases t2 with
      | true =>
        have Q2 : Heap.IsTuple (Shared.heap ⟨hp.push { cls := .type "tuple_iterator", data := .fields #[.ref l1, .int 0 0] }, g, d, tk, os⟩) l2 ys := Heap.IsTuple.push q2 _
        wp_walk using wpAny_pyIter_tuple Q1, wpAny_pyIter_tuple Q2
        obtain ⟨k1, k2, k3, k4⟩ := zip_laid (o1 := { cls := .type "tuple_iterator", data := .fields #[.ref l1, .int 0 0] }) (o2 := { cls := .type "tuple_iterator", data := .fields #[.ref l2, .int 0 0] }) (t1 := true) (t2 := true) (l1 := l1) (l2 := l2) (xs := xs) (ys := ys) (h := hp) rfl rfl rfl rfl rfl rfl rfl (fun g e q => ⟨⟨_, e, rfl, rfl⟩, q⟩) (fun g e q => ⟨⟨_, e, rfl, rfl⟩, q⟩) q1 q2
        have r := fin _ k4 k2 k3
        dsimp only at r
        rw [← k1] at r
        exact ⟨_, rfl, r⟩
      | false =>
        have Q2 : Heap.IsList (Shared.heap ⟨hp.push { cls := .type "tuple_iterator", data := .fields #[.ref l1, .int 0 0] }, g, d, tk, os⟩) l2 ys := Heap.IsList.push q2 _
        wp_walk using wpAny_pyIter_tuple Q1, wpAny_pyIter_list Q2
        obtain ⟨k1, k2, k3, k4⟩ := zip_laid (o1 := { cls := .type "tuple_iterator", data := .fields #[.ref l1, .int 0 0] }) (o2 := { cls := .type "list_iterator", data := .fields #[.ref l2, .int 0 0] }) (t1 := true) (t2 := false) (l1 := l1) (l2 := l2) (xs := xs) (ys := ys) (h := hp) rfl rfl rfl rfl rfl rfl rfl (fun g e q => ⟨⟨_, e, rfl, rfl⟩, q⟩) (fun g e q => ⟨⟨_, e, rfl, rfl⟩, q⟩) q1 q2
        have r := fin _ k4 k2 k3
        dsimp only at r
        rw [← k1] at r
        exact ⟨_, rfl, r⟩
    | false =>
      have Q1 : Heap.IsList (Shared.heap ⟨hp, g, d, tk, os⟩) l1 xs := q1
      cases t2 with
      | true =>
        have Q2 : Heap.IsTuple (Shared.heap ⟨hp.push { cls := .type "list_iterator", data := .fields #[.ref l1, .int 0 0] }, g, d, tk, os⟩) l2 ys := Heap.IsTuple.push q2 _
        wp_walk using wpAny_pyIter_list Q1, wpAny_pyIter_tuple Q2
        obtain ⟨k1, k2, k3, k4⟩ := zip_laid (o1 := { cls := .type "list_iterator", data := .fields #[.ref l1, .int 0 0] }) (o2 := { cls := .type "tuple_iterator", data := .fields #[.ref l2, .int 0 0] }) (t1 := false) (t2 := true) (l1 := l1) (l2 := l2) (xs := xs) (ys := ys) (h := hp) rfl rfl rfl rfl rfl rfl rfl (fun g e q => ⟨⟨_, e, rfl, rfl⟩, q⟩) (fun g e q => ⟨⟨_, e, rfl, rfl⟩, q⟩) q1 q2
        have r := fin _ k4 k2 k3
        dsimp only at r
        rw [← k1] at r
        exact ⟨_, rfl, r⟩
      | false =>
        have Q2 : Heap.IsList (Shared.heap ⟨hp.push { cls := .type "list_iterator", data := .fields #[.ref l1, .int 0 0] }, g, d, tk, os⟩) l2 ys := Heap.IsList.push q2 _
        wp_walk using wpAny_pyIter_list Q1, wpAny_pyIter_list Q2
        obtain ⟨k1, k2, k3, k4⟩ := zip_laid (o1 := { cls := .type "list_iterator", data := .fields #[.ref l1, .int 0 0] }) (o2 := { cls := .type "list_iterator", data := .fields #[.ref l2, .int 0 0] }) (t1 := false) (t2 := false) (l1 := l1) (l2 := l2) (xs := xs) (ys := ys) (h := hp) rfl rfl rfl rfl rfl rfl rfl (fun g e q => ⟨⟨_, e, rfl, rfl⟩, q⟩) (fun g e q => ⟨⟨_, e, rfl, rfl⟩, q⟩) q1 q2
        have r := fin _ k4 k2 k3
        dsimp only at r
        rw [← k1] at r
        exact ⟨_, rfl, r⟩
theorem call_zipX {Q : Value → Shared → Prop} (q1 : Srq t1 s.heap l1 xs) (q2 : Srq t2 s.heap l2 ys)
    (fin : ∀ h', ZNew t1 t2 (s.heap.objs.size + 4) (s.heap.objs.size + 2) (s.heap.objs.size + 3) s.heap.objs.size (s.heap.objs.size + 1) l1 l2 xs ys h' → h'.objs.size = s.heap.objs.size + 5 → (∀ c o, s.heap.get? c = some o → h'.get? c = some o) → Q (.ref (s.heap.objs.size + 4)) { s with heap := h' }) :
    wpAny (model prog w) A (call (.type "zip") [.ref l1, .ref l2]) Q E s :=
  callType_new PySem.F.called_zip (by decide) (PySem.F.typeCall_zip_2 _ _) (PySem.F.newCall_zip_2 _ _) (fun obj => PySem.F.args_object_init_3 obj _ _) PySem.F.entry_zip_new (meets_zipX t1 t2 l1 l2 xs ys) ⟨q1, q2, fun h' z n k => ⟨⟨_, z.1.1, rfl⟩, fin h' z n k⟩⟩
end
end MV
set_option Elab.async false
set_option linter.all false
set_option maxRecDepth 100000
set_option maxHeartbeats 1000000
/-! Readings by mirrors: dicts made, asked, enlarged; sets; counting on. -/
namespace MV
open PySem PySem.Spec PyProof.Rows L2
section
variable {X : Cx} {K : Frg} {a b : Expr} {fa fb : Sx} {pos : Pos} {A A' A2 : Wd} {H H' H2 : Hp} {S S' : Sto} {Q : VK} {ρ : Envi} {σ : L2.St} {D : Ends}
theorem push_dic {ps : List (PyData × PyData)} {kvs : List (Key × V)} {p : Addr} (w : Wf K A S H2) (hp : H2 p = none) (r : RpD K A.V H2 kvs ps) : Wf K (A.push p) (S ++ [.dic ps]) (upd H2 p (.dK kvs)) :=
  w.new hp ⟨kvs, upd_same, r.mono (Ext.push hp w).kp⟩
theorem Post.dic {ps : List (PyData × PyData)} {kvs : List (Key × V)} {p : Addr} (h : Post K A H Q (.ok (.f (.dic ps)) S)) (e : Ext A H A H2) (w : Wf K A S H2) (hp : H2 p = none) (r : RpD K A.V H2 kvs ps) : Q (.ref p) (upd H2 p (.dK kvs)) :=
  h _ _ (e.trans (.laid hp)) (push_dic w hp r) (e.free w hp)
/-! ### dict(zip(s, t)) -/
def putAll (ps : List (PyData × PyData)) : List (Key × PyData) → List (PyData × PyData)
  | [] => ps
  | (k, y) :: r => putAll (putD ps k y) r
def keysOf : List PyData → Option (List Key)
  | [] => some []
  | x :: xs => match kOf x, keysOf xs with
    | some k, some ks => some (k :: ks)
    | _, _ => none
theorem keysOf_ok {L : List Addr} : ∀ {ds : List PyData} {ks : List Key} {xs : List V}, keysOf ds = some ks → RpL K L H xs ds → xs = ks.map kV
  | [], _, _, h, .nil => by cases h; rfl
  | d :: ds, ks, _, h, .cons r t => by
    unfold keysOf at h
    split at h
    · rename_i k js h1 h2
      cases h
      rw [List.map_cons, keysOf_ok h2 t, Rp.key r h1]
    · cases h
theorem putAll_ok {L : List Addr} : ∀ {ks : List Key} {xs : List V} {ds : List PyData} {kvs : List (Key × V)} {ps : List (PyData × PyData)}, RpD K L H kvs ps → RpL K L H xs ds → RpD K L H (mergeK kvs (ks.zip xs)) (putAll ps (ks.zip ds))
  | [], _, _, _, _, r, _ => by simpa [mergeK, putAll] using r
  | _ :: _, _, _, _, _, r, .nil => by simpa [mergeK, putAll] using r
  | k :: ks, _, _, _, _, r, .cons q t => by
    rw [List.zip_cons_cons, List.zip_cons_cons]
    exact putAll_ok (ks := ks) (r.put q) t
theorem KV_zip : ∀ {ks : List Key} {xs : List V} {us : List Value}, Vals xs us → KV (ks.zip xs) (ks.zip us)
  | [], _, _, _ => by simp; exact .nil
  | _ :: _, _, _, .nil => by simp; exact .nil
  | k :: ks, _, _, .cons r t => by
    rw [List.zip_cons_cons, List.zip_cons_cons]
    exact .cons ⟨rfl, r⟩ (KV_zip t)
def gDictZip : List Val → Sto → Res Val
  | [v, w], S => match seqOf S v, seqOf S w with
    | some q, some r => match keysOf q.2.1 with
      | some ks => if q.2.1.length = r.2.1.length then .ok (.f (.dic (putAll [] (ks.zip r.2.1)))) S else .no
      | none => .no
    | _, _ => .no
  | _, _ => .no
theorem seq_raw {t : Bool} {a : Addr} {xs : List V} {pins : List (Addr × Obj)} {s : Shared} (I : Inv X pins σ H s) (q : SqA X.K t H a xs) : ∃ its, Vals xs its ∧ Srq t s.heap a its.toArray ∧ (∃ o, s.heap.get? a = some o) ∧ xs.length ≤ sizeLine := by
  cases t with
  | true =>
    obtain ⟨its, r, p, z⟩ := I.tuple (show SqT X.K H a xs from q)
    exact ⟨its, r, p, ⟨_, p.choose_spec.1⟩, z⟩
  | false =>
    obtain ⟨its, r, p, z⟩ := I.list (show SqL X.K H a xs from q)
    obtain ⟨o, n, e, _⟩ := id p
    exact ⟨its, r, p.isList, ⟨o, e⟩, z⟩
theorem vals_get : ∀ {ks : List Key} {us : List Value}, Vals (ks.map kV) us → ∀ (i : Nat) (u : Value), us[i]? = some u → ∃ k, ks[i]? = some k ∧ RelV (kV k) u
  | [], _, .nil, i, u, h => by simp at h
  | k :: ks, _, .cons r t, 0, u, h => by simp at h; subst h; exact ⟨k, rfl, r⟩
  | k :: ks, _, .cons r t, i + 1, u, h => by simpa using vals_get t i u (by simpa using h)
theorem eDictZip {e1 e2 : Expr} {f : SA} {p p2 q : Pos} (hc : X.calm = true) (hg : Gl X "dict") (hm : X.mg "dict" = none) (hg2 : Gl X "zip") (hm2 : X.mg "zip" = none) (ha : PA X [e1, e2] (tAr X.K f))
    (hs : starEach [e1, e2] X.env = (false, eval e1 X.env) :: starEach [e2] X.env := by rfl) (hpl : (backTo q (starEach [e2] X.env)).any (·.1) = false := by rfl)
    (hs1 : starEach [.Call (.Name "zip" p2) [e1, e2] [] q] X.env = (false, eval (.Call (.Name "zip" p2) [e1, e2] [] q) X.env) :: starEach [] X.env := by rfl) : PE X (.Call (.Name "dict" p) [.Call (.Name "zip" p2) [e1, e2] [] q] [] pos) (tE X.K (evCall gDictZip f)) := by
  refine ⟨fun pins s σ H Q I h => ?_⟩
  obtain ⟨A, S, ρ, w, env, pq⟩ := h
  refine Call_ (ld_blt I hg hm PyProof.Rows.boot_dict ?_)
  refine PyProof.Rows.callWith_type1 (PyProof.Rows.args_cons ?_ hs1) hs1 rfl
  refine Call_ (ld_blt I hg2 hm2 PyProof.Rows.boot_zip (PyProof.Rows.callWith_type1 (thn (ha.run q pins s σ H (fun xs H1 => ∃ vs S1, Ext A H A H1 ∧ Wf X.K A S1 H1 ∧ RvL X.K A H1 xs vs ∧ Post X.K A H Q (gDictZip vs S1)) I
    ⟨A, S, ρ, w, env, PostA.seq (P := Post X.K A H Q) pq (fun h => h) (fun _ _ h => h) fun vs S1 xs H1 e1 w1 r1 p1 => ⟨vs, S1, e1, w1, r1, p1⟩⟩) fun us s1 ⟨xs, H1, I1, r1, vs, S1, x1, w1, r2, p1⟩ => ?_) hs hpl))
  unfold gDictZip at p1
  split at p1
  case h_2 => exact p1.elim
  rename_i v u
  split at p1
  case h_2 => exact p1.elim
  rename_i qa qb hqa hqb
  split at p1
  case h_2 => exact p1.elim
  rename_i ks hks
  split at p1
  case isFalse => exact p1.elim
  rename_i hl
  obtain ⟨t, ds, g⟩ := qa
  obtain ⟨t', es, g'⟩ := qb
  dsimp only at hks hl p1
  cases r2 with | cons r2 r3 =>
  cases r3 with | cons r3 r4 =>
  cases r4
  obtain ⟨a, ya, rfl, t2, l2⟩ := seq_at hqa w1 r2
  obtain ⟨b, yb, rfl, t3, l3⟩ := seq_at hqb w1 r3
  cases r1 with | cons q1 q2 =>
  cases q2 with | cons q2 q3 =>
  cases q3
  cases q1
  cases q2
  obtain ⟨its, rv, p1', ⟨o1, ho1⟩, z1⟩ := seq_raw I1 l2
  obtain ⟨its2, rv2, p2', ⟨o2, ho2⟩, z2⟩ := seq_raw I1 l3
  have ek := keysOf_ok hks t2
  subst ek
  have n1 : its.length = ks.length := by rw [← rv.length, List.length_map]
  have n2 : its2.length = its.length := by rw [← rv2.length, t3.length, ← hl, ← t2.length, rv.length]
  refine call_zipX p1' p2' fun h' hz hsz hk => PyProof.Rows.args_nil ?_
  have I2 : Inv X pins σ H1 { s1 with heap := h' } := I1.kept (t' := s1.toks) hk
  have arg := zipX_arg (prog := X.prog) (w := X.w) (t1 := t) (t2 := t') (PySem.W.ktu_apart s1.heap.objs.size _ _ (Heap.lt_size ho1) (Heap.lt_size ho2)) (xs := its.toArray) (ys := its2.toArray) (by simp [n2])
  refine PySem.call_dict_pairs (s := { s1 with heap := h' }) (knd := mixKind X.prog X.w) (kvs := ks.zip its2) arg (I2.ok.hd hc) hz ?_ ?_ fun h2 tk hd k2 => ?_
  · refine ⟨by simp [n1, n2], fun i key v ⟨g1, g2⟩ => ?_⟩
    obtain ⟨k, e1, e2⟩ := vals_get rv i key (by simpa using g1)
    refine ⟨k, ?_, kV_is e2⟩
    have g2 : its2[i]? = some v := by simpa using g2
    rw [List.getElem?_zip_eq_some]
    exact ⟨e1, g2⟩
  · rw [List.size_toArray, n1]
    rw [List.length_map] at z1
    exact z1
  · have kall : ∀ b u, s1.heap.get? b = some u → h2.get? b = some u := fun b u e => k2 b u (fun m => by
      have lt := Heap.lt_size e
      simp only [List.mem_cons, List.not_mem_nil, or_false] at m
      rcases m with e' | e' | e' | e' <;> rw [e'] at lt
      · exact Nat.not_lt.mpr (Nat.le_add_right _ _) lt
      · exact Nat.not_lt.mpr (Nat.le_add_right _ _) lt
      · exact Nat.lt_irrefl _ lt
      · exact Nat.not_lt.mpr (Nat.le_add_right _ _) lt) (hk b u e)
    have hm' : (h'.objs.size == sysModules) = false := beq_eq_false_iff_ne.mpr (Nat.ne_of_gt I2.big)
    have rel := KV_zip (ks := ks) rv2
    have z0 : ks.length ≤ sizeLine := by rw [List.length_map] at z1; exact z1
    have hlen : (mergeK [] (ks.zip yb)).length ≤ sizeLine := Nat.le_trans (length_mergeK (ks.zip yb) []) (by
      rw [List.length_nil, Nat.zero_add, rel.length, List.length_zip, n2, n1, Nat.min_self]
      exact z0)
    have big : s1.heap.objs.size ≤ h'.objs.size := by omega
    refine ⟨.ref h'.objs.size, _, I1.laid (t' := tk) (o := .dK (mergeK [] (ks.zip yb))) kall big (show ObjOk X.prog X.w _ _ _ (.dK _) from ⟨hlen, hm', merged [] (ks.zip its2), KV.merge rel .nil, hd⟩), rfl, ?_⟩
    exact p1.dic x1 w1 (I1.hok.fresh big) (putAll_ok .nil t3)
/-! ### {k: v, ..} -/
abbrev SD := Envi → Sto → Res (List (Key × PyData))
def VD (K : Frg) (L : List Addr) (H : Hp) : List (Key × V) → List (Key × PyData) → Prop := Paired fun p q => p.1 = q.1 ∧ Rp K L H p.2 q.2
theorem VD.put {L : List Addr} : ∀ {kvs : List (Key × V)} {qs : List (Key × PyData)} {lvs : List (Key × V)} {ps : List (PyData × PyData)}, VD K L H kvs qs → RpD K L H lvs ps → RpD K L H (mergeK lvs kvs) (putAll ps qs)
  | _, _, _, _, .nil, r => by simpa [mergeK, putAll] using r
  | (k, v) :: kvs, (j, y) :: qs, _, _, .cons ⟨e, q⟩ t, r => by
    have e : k = j := e
    subst e
    exact VD.put (kvs := kvs) (qs := qs) t (r.put q)
theorem VD.mono {L L' : List Addr} {kvs : List (Key × V)} {qs : List (Key × PyData)} (k : Kp L H L' H') (r : VD K L H kvs qs) : VD K L' H' kvs qs := Paired.mapP r fun _ _ h => ⟨h.1, h.2.mono k⟩
def PostD (K : Frg) (A : Wd) (H : Hp) (Q : List (V × V) → Hp → Prop) : Res (List (Key × PyData)) → Prop
  | .ok qs S => ∀ kvs H', Ext A H A H' → Wf K A S H' → VD K A.V H' kvs qs → Q (kvs.map fun kv => (kV kv.1, kv.2)) H'
  | .exc _ _ => False
  | .no => False
theorem PostD.seq {β : Type} {P : Res β → Prop} {Q : List (V × V) → Hp → Prop} {r : Res (List (Key × PyData))} {g : List (Key × PyData) → Sto → Res β} (h : P (r.bind g)) (h0 : P .no → False) (h1 : ∀ e S, P (.exc e S) → False)
    (k : ∀ qs S1 kvs H1, Ext A H A H1 → Wf K A S1 H1 → VD K A.V H1 kvs qs → P (g qs S1) → Q (kvs.map fun kv => (kV kv.1, kv.2)) H1) : PostD K A H Q r := by
  cases r with
  | ok v S1 => exact fun x H1 e w r => k v S1 x H1 e w r h
  | exc e S => exact (h1 _ _ h).elim
  | no => exact (h0 h).elim
def tD (K : Frg) (f : SD) : L2.St → Hp → (List (V × V) → Hp → Prop) → Prop := fun σ H Q => At K σ H fun A ρ S => PostD K A H Q (f ρ S)
def PD (X : Cx) (pos : Pos) (keys : List (Option Expr)) (values : List Expr) (f : SD) : Prop := ∃ trs, PPs X pos keys values trs ∧ ∀ σ H Q, tD X.K f σ H Q → tPairs trs σ H Q
def dNil : SD := fun _ S => .ok [] S
def dCons (fk fv : Sx) (g : SD) : SD := fun ρ S => (fk ρ S).bind fun v S1 => (fv ρ S1).bind fun w S2 => (g ρ S2).bind fun r S3 => match v.th, w.th with
  | .d x, .d y => match kOf x with
    | some k => .ok ((k, y) :: r) S3
    | none => .no
  | _, _ => .no
theorem ddN : PD X pos [] [] dNil := ⟨[], pps_nil, fun σ H Q ⟨A, S, ρ, w, env, p⟩ => p [] H .refl w .nil⟩
theorem ddC {k v : Expr} {ks : List (Option Expr)} {vs : List Expr} {fk fv : Sx} {g : SD} (hk : PE X k (tE X.K fk)) (hv : PE X v (tE X.K fv)) (hr : PD X pos ks vs g) : PD X pos (some k :: ks) (v :: vs) (dCons fk fv g) := by
  obtain ⟨trs, h1, h2⟩ := hr
  refine ⟨_, pps_cons hk hv h1, fun σ H Q ⟨A, S, ρ, w, env, p⟩ => ?_⟩
  refine at_seq (P := PostD X.K A H Q) w env p (fun h => h) (fun _ _ h => h) fun x S1 xv H1 e1 w1 r1 p1 => ?_
  refine at_seq (P := PostD X.K A H Q) w1 (env.mono e1) p1 (fun h => h) (fun _ _ h => h) fun y S2 yv H2 e2 w2 r2 p2 => ?_
  refine h2 _ _ _ ⟨A, S2, ρ, w2, (env.mono e1).mono e2, PostD.seq (P := PostD X.K A H Q) p2 (fun h => h) (fun _ _ h => h) fun qs S3 kvs H3 e3 w3 r3 p3 => ?_⟩
  split at p3
  case h_2 => exact p3.elim
  rename_i a b ha hb
  split at p3
  case h_2 => exact p3.elim
  rename_i k' hk'
  rw [ha] at r1
  rw [hb] at r2
  have r1 : Rp X.K A.V H1 xv a := r1
  have r2 : Rp X.K A.V H2 yv b := r2
  rw [Rp.key r1 hk']
  exact p3 ((k', yv) :: kvs) H3 ((e1.trans e2).trans e3) w3 (.cons ⟨rfl, r2.mono e3.kp⟩ r3)
def evDic (f : SD) : Sx := fun ρ S => (f ρ S).bind fun qs S1 => if qs.length ≤ 15 then .ok (.f (.dic (putAll [] qs))) S1 else .no
theorem eDic {keys : List (Option Expr)} {values : List Expr} {f : SD} (h : PD X pos keys values f) (hall : keys.all (·.isSome) = true := by rfl) (hl : keys.length = values.length := by rfl) (h0 : keys ≠ [] := by exact List.cons_ne_nil _ _)
    (h15 : keys.length ≤ 15 := by decide) : PE X (.Dict keys values pos) (tE X.K (evDic f)) := by
  obtain ⟨trs, h1, h2⟩ := h
  refine PEi (pe_disp h1 hall hl h0 h15) fun σ H Q ⟨A, S, ρ, w, env, p⟩ => fun q hq => ?_
  obtain ⟨wP, kP⟩ := w.protNew (u := .dK []) trivial hq
  refine h2 _ _ _ ⟨A.prot q, S, ρ, wP, env.kx kP, ?_⟩
  dsimp only [evDic] at p
  show PostD X.K (A.prot q) _ _ (f ρ S)
  cases hf : f ρ S with
  | no => rw [hf] at p; exact p
  | exc e S1 => rw [hf] at p; exact p
  | ok qs S1 =>
    rw [hf] at p
    have p : Post X.K A H Q (if qs.length ≤ 15 then .ok (.f (.dic (putAll [] qs))) S1 else .no) := p
    split at p
    case isFalse => exact p.elim
    rename_i hl15
    intro kvs H2 e2 w2 r2
    have nq : q ∉ (A.prot q).A := (w2.pr q (List.mem_cons_self)).1
    have at2 : H2 q = some (.dK []) := e2.keepP upd_same nq (List.mem_cons_self)
    refine ⟨at2, kvs, rfl, by rw [Paired.length r2]; exact hl15, ?_⟩
    obtain ⟨w3, k3⟩ := w2.protUpd (p := q) (u := .dK (mergeK [] kvs)) trivial (List.mem_cons_self)
    have e : Ext A H A (L2.upd H2 q (.dK (mergeK [] kvs))) := ⟨rfl, ⟨[], by simp⟩, fun _ h => .inl h, fun b o hb nb => by
      rw [upd_ne (ne_of_none hb hq)]
      obtain ⟨o', a1, a2, a3⟩ := e2.keep b o (by rw [upd_ne (ne_of_none hb hq)]; exact hb) nb
      exact ⟨o', a1, a2, fun m => a3 (List.mem_cons_of_mem _ m)⟩⟩
    exact p q _ e (w3.protOut (k := .dic _) ⟨_, upd_same, VD.put (r2.mono k3.2) .nil⟩ fun m => w.off hq (Wd.mem.mpr (.inl m))) hq
def evDic0 : Sx := fun _ S => .ok (.f (.dic [])) S
theorem eDic0 : PE X (.Dict [] [] pos) (tE X.K evDic0) := PEi pe_dnewK fun σ H Q ⟨A, S, ρ, w, env, p⟩ => fun q hq => p.dic .refl w hq .nil
/-! ### d.get(k), d.get(k, x) -/
def gGet (v : Val) (vs : List Val) (S : Sto) : Res Val := match asM S v, vs with
  | some ps, [.d x] => match kOf x with
    | some k => .ok (.d ((look ps k).getD .none)) S
    | none => .no
  | some ps, [.d x, .d y] => match kOf x with
    | some k => .ok (.d ((look ps k).getD y)) S
    | none => .no
  | _, _ => .no
theorem mGet (hu : X.A.units + 100 < cLine) : MRul X "dict.get" gGet := by
  intro pins s σ A S H x xs u us v vs Q I wf rv rvs ru rus p
  unfold gGet at p
  split at p
  case h_3 => exact p.elim
  · rename_i ps y hps
    split at p
    case h_2 => exact p.elim
    rename_i k hk
    cases rvs with | cons r1 r2 =>
    cases r2
    obtain ⟨a, kvs, rfl, h1, h2⟩ := asM_ok wf rv hps
    have r1 : Rp X.K A.V H _ y := r1
    have e := Rp.key r1 hk
    subst e
    cases ru
    obtain ⟨u, rfl, ru⟩ := vals1 rus
    refine d_get1 (A := X.A) (o := valV kvs k) (by omega) I (dget_rd h1) ru fun w' s' I' rw' => ⟨_, H, I', rw', ?_⟩
    rcases look_ok (k := k) h2 with ⟨g1, g2⟩ | ⟨d, z, g1, g2, g3⟩
    · rw [g1] at p; rw [g2]; exact p _ H .refl wf .non
    · rw [g1] at p; rw [g2]; exact p _ H .refl wf g3
  · rename_i ps y z hps
    split at p
    case h_2 => exact p.elim
    rename_i k hk
    cases rvs with | cons r1 r2 =>
    cases r2 with | cons r2 r3 =>
    cases r3
    obtain ⟨a, kvs, rfl, h1, h2⟩ := asM_ok wf rv hps
    have r1 : Rp X.K A.V H _ y := r1
    have r2 : Rp X.K A.V H _ z := r2
    have e := Rp.key r1 hk
    subst e
    cases ru
    cases rus with | cons ru ru2 =>
    cases ru2 with | cons ru2 ru3 =>
    cases ru3
    refine d_get2 (A := X.A) (o := valV kvs k) (by omega) I (dget_rd h1) ru ru2 fun w' s' I' rw' => ⟨_, H, I', rw', ?_⟩
    rcases look_ok (k := k) h2 with ⟨g1, g2⟩ | ⟨d, z', g1, g2, g3⟩
    · rw [g1] at p; rw [g2]; exact p _ H .refl wf r2
    · rw [g1] at p; rw [g2]; exact p _ H .refl wf g3
/-! ### pairs as data -/
def pairsOf : List PyData → Option (List (Key × PyData))
  | [] => some []
  | .tuple [x, y] :: r => match kOf x, pairsOf r with
    | some k, some qs => some ((k, y) :: qs)
    | _, _ => none
  | _ => none
theorem pairsOf_ok : ∀ {ds : List PyData} {qs : List (Key × PyData)} {xs : List V}, pairsOf ds = some qs → RpL K A.V H xs ds → ∃ (ps : List Addr) (kvs : List (Key × V)), xs = ps.map V.ref ∧ Paired (fun p kv => SqT K H p [kV kv.1, kv.2]) ps kvs ∧ VD K A.V H kvs qs
  | [], _, _, h, .nil => by cases h; exact ⟨[], [], rfl, .nil, .nil⟩
  | d :: ds, qs, _, h, .cons r t => by
    unfold pairsOf at h
    split at h
    · rename_i h0; cases h0
    · rename_i x y r' h0
      cases h0
      split at h
      · rename_i k js h1 h2
        cases h
        obtain ⟨ps, kvs, e1, e2, e3⟩ := pairsOf_ok h2 t
        cases r with | tup l q =>
        cases q with | cons q1 q2 =>
        cases q2 with | cons q2 q3 =>
        cases q3
        have e := Rp.key q1 h1
        subst e
        subst e1
        exact ⟨_ :: ps, (k, _) :: kvs, rfl, .cons l.seq e2, .cons ⟨rfl, q2⟩ e3⟩
      · cases h
    · cases h
def gDict : List Val → Sto → Res Val
  | [v], S => match asM S v with
    | some ps => .ok (.f (.dic ps)) S
    | none => match (asL S v).bind pairsOf with
      | some qs => .ok (.f (.dic (putAll [] qs))) S
      | none => .no
  | _, _ => .no
theorem bDict (hc : X.calm = true) : BRul X (.type "dict") gDict := by
  intro pins s σ A S H xs us vs Q I wf rvs rus p
  unfold gDict at p
  split at p
  case h_2 => exact p.elim
  cases rvs with | cons r1 r2 =>
  cases r2
  split at p
  · rename_i ps hps
    obtain ⟨a, kvs, rfl, h1, h2⟩ := asM_ok wf r1 hps
    obtain ⟨u, rfl, ru⟩ := vals1 rus
    cases ru
    exact d_copyOf I h1 fun q s' hq I' => ⟨.ref q, _, I', rfl, p.dic .refl wf hq h2⟩
  · split at p
    case h_2 => exact p.elim
    rename_i qs hqs
    obtain ⟨ds, h1, h2⟩ := Option.bind_eq_some_iff.mp hqs
    obtain ⟨a, ys, rfl, h3, h4⟩ := asL_ok wf r1 h1
    obtain ⟨ps, kvs, e1, e2, e3⟩ := pairsOf_ok h2 h4
    subst e1
    exact call_dictP hc pins s σ H _ us Q I rus ⟨a, ps, kvs, rfl, SqL.of h3, e2, fun q hq => p.dic .refl wf hq (e3.put .nil)⟩
/-! ### tuple(range(..)), list(range(..)) -/
def rgD (a b : Int) : List PyData := (List.range (b - a).toNat).map fun i => PyData.int (a + (i : Nat))
theorem rgV_rp {L : List Addr} (a b : Int) : RpL K L H (rgV a b) (rgD a b) := by
  unfold rgV rgD
  generalize List.range (b - a).toNat = l
  induction l with
  | nil => exact .nil
  | cons i l ih => exact .cons (.int _) ih
def rgOk (a b : Int) : Bool := decide (0 ≤ a ∧ 0 ≤ b ∧ a ≤ 1000000 ∧ b ≤ 1000000)
theorem rgOk_ok {a b : Int} (h : rgOk a b = true) : RgOk a b := by
  have := of_decide_eq_true h
  exact RgOk.of_le (by omega) (by omega) (by omega) (by omega)
def evRg (f : SA) (g : Int → Int → Sto → Res Val) : Sx := fun ρ S => (f ρ S).bind fun vs S1 => match vs with
  | [.d (.int b)] => if rgOk 0 b = true then g 0 b S1 else .no
  | [.d (.int a), .d (.int b)] => if rgOk a b = true then g a b S1 else .no
  | _ => .no
def evTupleRange (f : SA) : Sx := evRg f fun a b S => .ok (.d (.tuple (rgD a b))) S
def evListRange (f : SA) : Sx := evRg f fun a b S => .ok (.f (.lst (rgD a b))) S
section
variable {e1 e2 : Expr} {f1 f2 : Sx} {p p2 q : Pos}
theorem rg1_ok {g : Int → Int → Sto → Res Val} {σ : L2.St} {Q : VK} {R : Int → Int → Hp → Prop} (h : tE K (evRg (aCons f1 aNil) g) σ H Q) (k : ∀ A S a b H1, Ext A H A H1 → Wf K A S H1 → RgOk a b → Post K A H Q (g a b S) → R a b H1) : tRg1 (tE K f1) σ H R := by
  obtain ⟨A, S, ρ, w, env, p⟩ := h
  refine at_seq (P := Post K A H Q) w env (p := (show Post K A H Q ((f1 ρ S).bind _) from ?_)) (g := fun v S1 => match ([v.th] : List Val) with
    | [.d (.int b)] => if rgOk 0 b = true then g 0 b S1 else .no
    | [.d (.int a), .d (.int b)] => if rgOk a b = true then g a b S1 else .no
    | _ => .no) (fun h => h) (fun _ _ h => h) fun v S1 x H1 e1 w1 r1 p1 => ?_
  · dsimp only [evRg, aCons, aNil] at p
    cases hf : f1 ρ S with
    | no => rw [hf] at p; exact p
    | exc e S => rw [hf] at p; exact p
    | ok v S1 => rw [hf] at p; exact p
  · split at p1
    · rename_i b hb
      split at p1
      case isFalse => exact p1.elim
      rename_i hok
      have hb : v.th = .d (.int b) := by simpa using hb
      rw [hb] at r1
      exact ⟨b, Rp.int_inv r1, k A S1 0 b H1 e1 w1 (rgOk_ok hok) p1⟩
    · rename_i a b hb
      simp at hb
    · exact p1.elim
theorem eTupleRange1 (hc : X.calm = true) (hg : Gl X "tuple") (hm : X.mg "tuple" = none) (hg2 : Gl X "range") (hm2 : X.mg "range" = none) (h : PE X e1 (tE X.K f1))
    (n1 : starEach [e1] X.env = (false, eval e1 X.env) :: starEach [] X.env := by rfl) (n2 : starEach [.Call (.Name "range" p2) [e1] [] q] X.env = (false, eval (.Call (.Name "range" p2) [e1] [] q) X.env) :: starEach [] X.env := by rfl) :
    PE X (.Call (.Name "tuple" p) [.Call (.Name "range" p2) [e1] [] q] [] pos) (tE X.K (evTupleRange (aCons f1 aNil))) :=
  PEi (pe_tupRg hc hg hm (prg_1 hg2 hm2 h n1) n2) fun σ H Q h => rg1_ok h fun A S a b H1 e1 w1 ok p => ⟨ok, fun _ hq => p.tup e1 w1 hq (rgV_rp _ _)⟩
theorem eListRange1 (hc : X.calm = true) (hg : Gl X "list") (hm : X.mg "list" = none) (hg2 : Gl X "range") (hm2 : X.mg "range" = none) (h : PE X e1 (tE X.K f1))
    (n1 : starEach [e1] X.env = (false, eval e1 X.env) :: starEach [] X.env := by rfl) (n2 : starEach [.Call (.Name "range" p2) [e1] [] q] X.env = (false, eval (.Call (.Name "range" p2) [e1] [] q) X.env) :: starEach [] X.env := by rfl) :
    PE X (.Call (.Name "list" p) [.Call (.Name "range" p2) [e1] [] q] [] pos) (tE X.K (evListRange (aCons f1 aNil))) :=
  PEi (pe_listRg hc hg hm (prg_1 hg2 hm2 h n1) n2) fun σ H Q h => rg1_ok h fun A S a b H1 e1 w1 ok p => ⟨ok, fun _ hq => p.lst e1 w1 hq (rgV_rp _ _)⟩
end
theorem rg2_ok {f1 f2 : Sx} {g : Int → Int → Sto → Res Val} {σ : L2.St} {Q : VK} {R : Int → Int → Hp → Prop} (h : tE K (evRg (aCons f1 (aCons f2 aNil)) g) σ H Q) (k : ∀ A S a b H1, Ext A H A H1 → Wf K A S H1 → RgOk a b → Post K A H Q (g a b S) → R a b H1) : tRg2 (tE K f1) (tE K f2) σ H R := by
  obtain ⟨A, S, ρ, w, env, p⟩ := h
  refine at_seq (P := Post K A H Q) w env (p := (show Post K A H Q ((f1 ρ S).bind _) from ?_)) (g := fun v S1 => (f2 ρ S1).bind fun u S2 => match ([v.th, u.th] : List Val) with
    | [.d (.int b)] => if rgOk 0 b = true then g 0 b S2 else .no
    | [.d (.int a), .d (.int b)] => if rgOk a b = true then g a b S2 else .no
    | _ => .no) (fun h => h) (fun _ _ h => h) fun v S1 x H1 e1 w1 r1 p1 => ?_
  · dsimp only [evRg, aCons, aNil] at p
    cases hf : f1 ρ S with
    | no => rw [hf] at p; exact p
    | exc e S => rw [hf] at p; exact p
    | ok v S1 =>
      rw [hf] at p
      cases hg : f2 ρ S1 with
      | no => simp only [Res.bind, hg] at p ⊢
              exact p
      | exc e S => simp only [Res.bind, hg] at p ⊢
                   exact p
      | ok u S2 => simp only [Res.bind, hg] at p ⊢
                   exact p
  · refine at_seq (P := Post K A H Q) w1 (env.mono e1) p1 (fun h => h) (fun _ _ h => h) fun u S2 y H2 e2 w2 r2 p2 => ?_
    split at p2
    · rename_i b hb
      simp at hb
    · rename_i a b hb
      split at p2
      case isFalse => exact p2.elim
      rename_i hok
      have hb : v.th = .d (.int a) ∧ u.th = .d (.int b) := by simpa using hb
      rw [hb.1] at r1
      rw [hb.2] at r2
      exact ⟨a, b, Rp.int_inv r1, Rp.int_inv r2, k A S2 a b H2 (e1.trans e2) w2 (rgOk_ok hok) p2⟩
    · exact p2.elim
section
variable {e1 e2 : Expr} {f1 f2 : Sx} {p p2 q : Pos}
theorem eTupleRange2 (hc : X.calm = true) (hg : Gl X "tuple") (hm : X.mg "tuple" = none) (hg2 : Gl X "range") (hm2 : X.mg "range" = none) (h : PE X e1 (tE X.K f1)) (h' : PE X e2 (tE X.K f2))
    (n1 : starEach [e1, e2] X.env = (false, eval e1 X.env) :: starEach [e2] X.env := by rfl) (n0 : starEach [e2] X.env = (false, eval e2 X.env) :: starEach [] X.env := by rfl) (np : (backTo q (starEach [e2] X.env)).any (·.1) = false := by rfl)
    (n2 : starEach [.Call (.Name "range" p2) [e1, e2] [] q] X.env = (false, eval (.Call (.Name "range" p2) [e1, e2] [] q) X.env) :: starEach [] X.env := by rfl) :
    PE X (.Call (.Name "tuple" p) [.Call (.Name "range" p2) [e1, e2] [] q] [] pos) (tE X.K (evTupleRange (aCons f1 (aCons f2 aNil)))) :=
  PEi (pe_tupRg hc hg hm (prg_2 hg2 hm2 h h' n1 n0 np) n2) fun σ H Q h => rg2_ok h fun A S a b H1 e1 w1 ok p => ⟨ok, fun _ hq => p.tup e1 w1 hq (rgV_rp _ _)⟩
end
/-! ### list.remove of any datum -/
open Classical in
noncomputable def gRemoveD (v : Val) (vs : List Val) (S : Sto) : Res Val := match cellL S v, vs with
  | some (n, ds), [.d d] => if SeqAt.shaped (.list ds) = true ∧ SeqAt.shaped d = true ∧ PyData.plainAll ds = true ∧ d.plain = true then match SeqAt.dataPlace ds d with
      | some j => .ok (.d .none) (S.set n (.lst (ds.eraseIdx j)))
      | none => .no
    else .no
  | _, _ => .no
theorem mRemoveD (hu : X.A.units + 100 < cLine) : MRul X "list.remove" gRemoveD := by
  intro pins s σ A S H x xs u us v vs Q I wf rv rvs ru rus p
  unfold gRemoveD at p
  split at p
  case h_2 => exact p.elim
  rename_i n ds d hc
  split at p
  case isFalse => exact p.elim
  rename_i c
  obtain ⟨c1, c2, c3, c4⟩ := c
  split at p
  case h_2 => exact p.elim
  rename_i j hj
  obtain ⟨a, ys, h1, h2, rfl, h3, h4⟩ := cellL_ok wf rv hc
  cases rvs with | cons r1 r2 =>
  cases r2
  have r1 : Rp X.K A.V H _ d := r1
  cases ru
  obtain ⟨u, rfl, ru⟩ := vals1 rus
  obtain ⟨z, its, n', rr, hl', ho⟩ := I.lstM h3
  obtain ⟨as, rx⟩ := Dp.reads I d _ u (Rp.dp d _ (SeqAt.canLay_of_shaped c2) r1) ru
  have cl : PyData.canLayAll0 ds = true := by simpa [PyData.canLay0] using SeqAt.canLay_of_shaped c1
  obtain ⟨bs, rs⟩ := Dp.readsAll I ds ys its (RpL.dp ds ys cl h4) rr
  have dd := SeqAt.depth_of_shaped c2
  refine SeqAt.remove_list_data (vs := its.toArray) ⟨_, ho, rfl, n', rfl⟩ (by simpa using rs) rx c3 c4 (by
    have : min (PyData.depthAll ds) d.depth ≤ 64 := Nat.le_trans (Nat.min_le_right _ _) dd
    omega) hj (by rw [List.size_toArray, ← rr.length]; exact z) ?_
  refine ⟨.non, _, I.lset (its' := its.eraseIdx j) (t' := s.toks) h3 ho ?_ (rr.eraseIdx j) ?_, rfl, p.put wf h1 (h4.eraseIdx j) .non⟩
  · show its.toArray.eraseIdxIfInBounds j = (its.eraseIdx j).toArray
    rw [List.eraseIdxIfInBounds_toArray]
  · exact Nat.le_trans (List.length_eraseIdx_le _ _) z
end
end MV
set_option Elab.async false
set_option linter.all false
set_option maxRecDepth 100000
set_option maxHeartbeats 1000000
/-! Readings by mirrors: dicts sorted, merged, told as lists. -/
namespace MV
open PySem PySem.Spec PyProof.Rows L2
section
variable {X : Cx} {K : Frg} {a b : Expr} {fa fb : Sx} {pos : Pos} {A A' A2 : Wd} {H H' H2 : Hp} {S S' : Sto} {Q : VK} {ρ : Envi} {σ : L2.St} {D : Ends}
/-! ### sorted(d), the keys whole numbers -/
theorem rpd_keys {L : List Addr} : ∀ {kvs : List (Key × V)} {ps : List (PyData × PyData)}, RpD K L H kvs ps → ps.map (·.1) = kvs.map fun p => kD p.1
  | _, _, .nil => rfl
  | _, _, .cons _ t => by rw [List.map_cons, List.map_cons, rpd_keys t]
theorem keys_int : ∀ {ks : List Key} {ns : List Int}, ks.map kD = ns.map .int → ks = ns.map Sum.inl
  | [], [], _ => rfl
  | [], _ :: _, h => by cases h
  | _ :: _, [], h => by cases h
  | k :: ks, n :: ns, h => by
    rw [List.map_cons, List.map_cons, List.cons.injEq] at h
    rw [List.map_cons, keys_int h.2]
    cases k with
    | inl i => have e := h.1; unfold kD at e; cases e; rfl
    | inr x => have e := h.1; unfold kD at e; cases e
def gSortedK : List Val → Sto → Res Val
  | [v], S => match (asM S v).bind fun ps => intsOf (ps.map (·.1)) with
    | some ns => if ns.length < 64 then .ok (.f (.lst ((ns.mergeSort fun a b => decide (a ≤ b)).map .int))) S else .no
    | none => .no
  | _, _ => .no
theorem isort_eq {ns ys : List Int} (h1 : ys.Perm ns) (h2 : ys.Pairwise (· ≤ ·)) : ys = ns.mergeSort fun a b => decide (a ≤ b) := by
  refine List.Perm.eq_of_pairwise (le := (· ≤ ·)) (fun a b _ _ h1 h2 => by omega) h2 ?_ (h1.trans (List.mergeSort_perm _ _).symm)
  have h := List.pairwise_mergeSort (le := fun (a b : Int) => decide (a ≤ b)) (fun a b c h1 h2 => by simp at h1 h2 ⊢; omega) (fun a b => by simp; omega) ns
  exact h.imp fun h => by simpa using h
theorem bSortedK (hc : X.calm = true) : BRul X (.builtin "sorted") gSortedK := by
  intro pins s σ A S H xs us vs Q I wf rvs rus p
  unfold gSortedK at p
  split at p
  case h_2 => exact p.elim
  rename_i v _
  cases rvs with | cons r1 r2 =>
  cases r2
  split at p
  case h_2 => exact p.elim
  rename_i ns hns
  split at p
  case isFalse => exact p.elim
  rename_i hl
  obtain ⟨ps, h1, h2⟩ := Option.bind_eq_some_iff.mp hns
  obtain ⟨a, kvs, rfl, h3, h4⟩ := asM_ok wf r1 h1
  have e := intsOf_ok h2
  rw [rpd_keys h4, show (kvs.map fun p => kD p.1) = (kvs.map (·.1)).map kD by simp] at e
  refine call_sortedDI hc pins s σ H _ us Q I rus ⟨a, kvs, ns, rfl, h3, keys_int e, hl, fun ys q hp hw hq => ?_⟩
  rw [isort_eq hp hw]
  exact p.fresh wf hq (RpL.of_ints _)
/-! ### d.update(pairs) -/
/-- the dict cell that v is -/
def cellM (S : Sto) : Val → Option (Nat × List (PyData × PyData))
  | .c n => match S[n]? with
    | some (.dic ds) => some (n, ds)
    | _ => none
  | _ => none
theorem cellM_ok {x : V} {v : Val} {n : Nat} {ds : List (PyData × PyData)} (w : Wf K A S H) (r : Rv K A H x v) (h : cellM S v = some (n, ds)) : ∃ a xs, A.A[n]? = some a ∧ a ∈ A.A ∧ x = .ref a ∧ H a = some (.dK xs) ∧ RpD K A.V H xs ds := by
  cases v with
  | c m =>
    have h : (match S[m]? with
      | some (.dic es) => some (m, es)
      | _ => none) = some (n, ds) := h
    split at h
    · rename_i es q
      cases h
      obtain ⟨a, h1, rfl⟩ := r
      obtain ⟨xs, h2, h3⟩ := w.ok n a _ h1 q
      exact ⟨a, xs, h1, List.mem_of_getElem? h1, rfl, h2, h3⟩
    · cases h
  | _ => cases h
def gUpdate (v : Val) (vs : List Val) (S : Sto) : Res Val := match cellM S v, vs with
  | some (n, ps), [w] => match (asL S w).bind pairsOf with
    | some qs => if ps.length + qs.length ≤ sizeLine then .ok (.d .none) (S.set n (.dic (putAll ps qs))) else .no
    | none => .no
  | _, _ => .no
theorem pairs_raw {pins : List (Addr × Obj)} {s : Shared} (I : Inv X pins σ H s) : ∀ {ps : List Addr} {kvs : List (Key × V)}, Paired (fun p kv => SqT X.K H p [kV kv.1, kv.2]) ps kvs →
    ∃ (prs : List (Key × Value)) (raw : List (Value × Value)), KV kvs prs ∧ prs.length = ps.length ∧ raw.length = ps.length ∧ ∀ (j : Nat) (k v : Value), raw[j]? = some (k, v) → ∃ (b : Addr) (kk : Key), ps[j]? = some b ∧ IsTup s.heap b #[k, v] ∧ prs[j]? = some (kk, v) ∧ keyIs kk k = true
  | [], _, .nil => ⟨[], [], .nil, rfl, rfl, fun j k v e => by simp at e⟩
  | _ :: _, _, .cons (a := p) (b := kv) h t => by
    obtain ⟨prs, raw, r, hl, hl2, hp⟩ := pairs_raw I t
    obtain ⟨its, rv, ht, _⟩ := I.tuple h
    obtain ⟨u, y, ei, ru, ry⟩ := vals2 rv
    subst ei
    refine ⟨(kv.1, y) :: prs, (u, y) :: raw, .cons ⟨rfl, ry⟩ r, by simp [hl], by simp [hl2], fun j k v e => ?_⟩
    cases j with
    | zero =>
      simp at e
      obtain ⟨rfl, rfl⟩ := e
      exact ⟨p, kv.1, rfl, ht, rfl, kV_is (P := X.prog) (w := X.w) ru⟩
    | succ j => exact hp j k v (by simpa using e)
theorem RpD.mono' {A : List Addr} {A' : List Addr} {kvs : List (Key × V)} {d : List (PyData × PyData)} (r : RpD K A H kvs d) (k : Kp A H A' H') : RpD K A' H' kvs d := RpD.mono k r
theorem mUpdate (hc : X.calm = true) : MRul X "dict.update" gUpdate := by
  intro pins s σ A S H x xs u us v vs Q I wf rv rvs ru rus p
  unfold gUpdate at p
  split at p
  case h_2 => exact p.elim
  rename_i n ps w hm
  split at p
  case h_2 => exact p.elim
  rename_i qs hqs
  split at p
  case isFalse => exact p.elim
  rename_i hl
  obtain ⟨a, kvs, ha, ma, rfl, h1, h2⟩ := cellM_ok wf rv hm
  cases rvs with | cons r1 r2 =>
  cases r2
  obtain ⟨ds, g1, g2⟩ := Option.bind_eq_some_iff.mp hqs
  obtain ⟨b, ys, rfl, g3, g4⟩ := asL_ok wf r1 g1
  obtain ⟨as, kvs2, e1, e2, e3⟩ := pairsOf_ok g2 g4
  subst e1
  obtain ⟨u2, rfl, ru2⟩ := vals1 rus
  cases ru
  cases ru2
  obtain ⟨z, hd, vs, rel, dd⟩ := dk_of I.hok h1
  obtain ⟨its, rv2, pl, hz⟩ := I.list (.inl (.inl g3))
  have ei := refs_at rv2
  subst ei
  obtain ⟨prs, raw, rel2, hl2, hl3, hpr⟩ := pairs_raw I e2
  obtain ⟨o, m, ho, hoc, hod, hdat⟩ := pl
  have lp := rel2.length
  have lq : kvs2.length = qs.length := Paired.length e3
  have l1 := rel.length
  have l2 := h2.length
  have off : ∀ T q (o' : Obj), s.heap.get? q = some o' → o'.cls = .type T → T ≠ "dict" → a ≠ q := fun T q o' e1 e2 ne e => by
    subst e
    obtain ⟨o2, h1, h2⟩ := dd.typeIs
    rw [e1] at h1
    cases h1
    rw [e2] at h2
    exact ne (by cases h2; rfl)
  have pq : ∀ j k v, raw[j]? = some (k, v) → as[j]? = some (as.getD j 0) ∧ IsTup s.heap (as.getD j 0) #[k, v] ∧ ∃ kk, prs[j]? = some (kk, v) ∧ keyIs kk k = true := fun j k v e => by
    obtain ⟨q, kk, e1, e2, e3, e4⟩ := hpr j k v e
    have e5 : as.getD j 0 = q := by rw [List.getD_eq_getElem?_getD, e1]; rfl
    rw [e5]
    exact ⟨e1, e2, kk, e3, e4⟩
  refine call_update_pairs (knd := mixKind X.prog X.w) (acc := vs) (kvs := prs) (PairArg.list b (as.map Value.ref).toArray (fun j => as.getD j 0) raw)
    (I.ok.hd hc) ⟨⟨o, m, ho, hoc, hod, hdat⟩, by simp [hl3], fun j k v e => ?_⟩ (fun hm => ?_) ⟨by omega, fun j k v e => ?_⟩ dd (by omega) fun h' tk dd' k => ?_
  · obtain ⟨e1, e2, _⟩ := pq j k v e
    exact ⟨by rw [List.getElem?_toArray, List.getElem?_map, e1]; rfl, .inl e2⟩
  · rcases List.mem_cons.mp hm with e | hm
    · exact off "list" b o ho hoc (by decide) e
    · obtain ⟨j, hj, e⟩ := List.mem_map.mp hm
      have hj := List.mem_range.mp hj
      obtain ⟨_, ⟨o', e1, e2, _⟩, _⟩ := pq j raw[j].1 raw[j].2 (List.getElem?_eq_getElem hj)
      exact off "tuple" _ o' e1 e2 (by decide) e.symm
  · obtain ⟨_, _, kk, e1, e2⟩ := pq j k v e
    exact ⟨kk, e1, e2⟩
  · have hlen : (mergeK kvs kvs2).length ≤ sizeLine := Nat.le_trans (length_mergeK kvs2 kvs) (by omega)
    have he : ∃ q, h'.get? a = some q := let ⟨q, _, _, hq, _⟩ := dd'; ⟨q, hq⟩
    refine ⟨.non, _, I.write (x := a) (e := a) (t' := tk) (by rw [h1]; exact True.intro) (.inl rfl) (fun b' q hb e => k b' q hb (by simp) e) he (dk_new hlen hd (KV.merge rel2 rel) dd'), rfl, ?_⟩
    have ry : Rp X.K A.V H .non .none := .non
    exact p .non _ (.upd ma) (wf.upd ha ⟨_, upd_same, (e3.put h2).mono' (kp_upd ma)⟩) .non
/-! ### list(d), list(d.values()) -/
def gListK : List Val → Sto → Res Val
  | [v], S => match asM S v with
    | some ps => .ok (.f (.lst (ps.map (·.1)))) S
    | none => .no
  | _, _ => .no
theorem rpl_keys {L : List Addr} : ∀ {kvs : List (Key × V)} {ps : List (PyData × PyData)}, RpD K L H kvs ps → RpL K L H (kvs.map fun p => kV p.1) (ps.map (·.1))
  | _, _, .nil => .nil
  | _, _, .cons (k := k) _ t => by
    refine .cons ?_ (rpl_keys t)
    cases k with
    | inl i => exact .int i
    | inr x => exact .str x
theorem rpl_vals {L : List Addr} : ∀ {kvs : List (Key × V)} {ps : List (PyData × PyData)}, RpD K L H kvs ps → RpL K L H (kvs.map (·.2)) (ps.map (·.2))
  | _, _, .nil => .nil
  | _, _, .cons r t => .cons r (rpl_vals t)
theorem bListK (hc : X.calm = true) : BRul X (.type "list") gListK := by
  intro pins s σ A S H xs us vs Q I wf rvs rus p
  unfold gListK at p
  split at p
  case h_2 => exact p.elim
  rename_i v _
  cases rvs with | cons r1 r2 =>
  cases r2
  split at p
  case h_2 => exact p.elim
  rename_i ps hps
  obtain ⟨a, kvs, rfl, h3, h4⟩ := asM_ok wf r1 hps
  exact call_listD hc pins s σ H _ us Q I rus ⟨a, kvs, rfl, h3, fun q hq => p.fresh wf hq (rpl_keys h4)⟩
/-- the view of a dict's values -/
def valsO (p a : Addr) : HO := .ext fun h => h.IsValuesView p a
def tVals (td : TE) : TE := fun σ H Q => td σ H fun x H1 => ∃ a kvs, x = .ref a ∧ Rd H1 a (.dK kvs) ∧ ∀ p, H1 p = none → Q (.ref p) (L2.upd H1 p (valsO p a))
theorem pe_vals {e : Expr} {td : TE} {apos cpos : Pos} (he : PE X e td) (hbase : attributeBase e "values" X.env (eval e X.env) = eval e X.env := by rfl) (hline : (apos.endLine == cpos.line) = true := by rfl) : PE X (.Call (.Attribute e "values" apos) [] [] cpos) (tVals td) := by
  refine ⟨fun pins s σ H Q I h => ?_⟩
  refine wpAny_Call_method (T := "dict") (id := "dict.values") hbase rfl hline F.plainAttrs_dict F.slot_dict_values F.type_dict_values (thn (he.run pins s σ H _ I h) fun u s1 ⟨x, H1, I1, rx, d, kvs, ex, hd, q⟩ => ?_)
  subst ex
  obtain rfl : u = Value.ref d := rx
  obtain ⟨z, hs, vs, rel, dd⟩ := dk_rd I1.hok hd
  obtain ⟨ep, hm⟩ := dd.dictAt
  refine ⟨dd.typeIs, dd.mapOf.noDict, ?_⟩
  have hv : (s1.heap.push { cls := .type "dict_values", data := .fields #[.ref d] }).IsValuesView s1.heap.objs.size d := ⟨_, Heap.get?_push_size _ rfl, rfl, rfl⟩
  have fin : EP X pins σ Q (.ref s1.heap.objs.size) { s1 with heap := s1.heap.push { cls := .type "dict_values", data := .fields #[.ref d] } } :=
    ⟨.ref s1.heap.objs.size, _, I1.laid (t' := s1.toks) (o := valsO s1.heap.objs.size d) (fun b o e => Heap.get?_push_of_some _ e) (Nat.le_refl _) ⟨hv, ⟨_, Heap.get?_push_size _ rfl⟩, fun h1 h2 w k => let ⟨o, ho, r⟩ := w; ⟨o, k o ho, r⟩⟩, rfl, q _ (I1.hok.fresh (Nat.le_refl _))⟩
  show wpAny _ _ (callWith cpos (.builtin "dict.values") [.ref d] [] []) _ X.xe s1
  exact method_meetsIn F.slot_dict_values F.entry_dict_values rfl (PySem.evalArgs_none ⟨rfl, dd.typeIs, F.args_dict_values_1 _, _, meets_dict_values (mixKind X.prog X.w) d hs, ⟨vs, dd⟩, fin⟩)
theorem cr_listV (hc : X.calm = true) : CallR X (.type "list") (fun xs H Q => ∃ p a kvs, xs = [.ref p] ∧ H p = some (valsO p a) ∧ Rd H a (.dK kvs) ∧ ∀ q, H q = none → Q (.ref q) (L2.upd H q (.lst (kvs.map (·.2))))) := by
  intro pins s σ H xs us Q I r h
  obtain ⟨p, a, kvs, e, hp, hk, q⟩ := h
  subst e
  obtain ⟨u, eu, rx⟩ := vals1 r
  subst eu
  obtain rfl : u = Value.ref p := rx
  obtain ⟨z, lo, vs, rk, hd⟩ := dk_rd I.hok hk
  obtain ⟨ep, hat⟩ := hd.dictAt
  have hl : kvs.length = vs.length := rk.length
  have hv : s.heap.IsValuesView p a := (show ObjOk X.prog X.w H s.heap p (valsO p a) from I.hok p _ hp).1
  refine PySem.W.kdl_call (PySem.W.kdl_values (knd := mixKind X.prog X.w) (kvs := vs) (ep := ep)) (I.ok.hd hc) ⟨hv, hat⟩ (by rw [← hl]; exact z) fun h' tk acc' c' hkeep hS hacc => ?_
  refine ⟨.ref s.heap.objs.size, L2.upd H s.heap.objs.size (.lst (kvs.map (·.2))), I.laid hkeep (Nat.le_refl _) (show ObjOk X.prog X.w _ _ _ (.lst (kvs.map (·.2))) from ⟨?_, acc'.toList, c', ?_, ?_⟩), rfl, q _ (I.hok.fresh (Nat.le_refl _))⟩
  · rw [List.length_map]; exact z
  · have el : acc'.toList.length = acc'.size := by simp
    refine vals_of_at (by rw [List.length_map, el, hacc.1, hl]) fun j x w h1 h2 => ?_
    obtain ⟨k, hky⟩ := hacc.2 j w (by rw [← Array.getElem?_toList]; exact h2)
    obtain ⟨y, g1, g2⟩ := KV.at' rk hky
    rw [List.getElem?_map, g1] at h1
    cases h1
    exact g2
  · rw [Array.toArray_toList]; exact hS
def evListVals (f : Sx) : Sx := fun ρ S => (f ρ S).bind fun v S1 => match asM S1 v.th with
  | some ps => .ok (.f (.lst (ps.map (·.2)))) S1
  | none => .no
theorem eListVals {e : Expr} {p apos cpos : Pos} (hc : X.calm = true) (hg : Gl X "list") (hm : X.mg "list" = none) (he : PE X e (tE X.K fa)) (hbase : attributeBase e "values" X.env (eval e X.env) = eval e X.env := by rfl) (hline : (apos.endLine == cpos.line) = true := by rfl) :
    PE X (.Call (.Name "list" p) [.Call (.Attribute e "values" apos) [] [] cpos] [] pos) (tE X.K (evListVals fa)) :=
  PEi (pe_callTy (cr_listV hc) hg hm (by decide +kernel) (pa_cons (pe_vals he hbase hline) pa_nil)) fun σ H Q ⟨A, S, ρ, w, env, p⟩ => at_seq (P := Post X.K A H Q) w env p (fun h => h) (fun _ _ h => h) fun v S1 x H1 e1 w1 r1 p1 => by
    split at p1
    · rename_i ps hps
      obtain ⟨a, kvs, rfl, h3, h4⟩ := asM_ok w1 r1 hps
      refine ⟨a, kvs, rfl, h3, fun q hq => ?_⟩
      have e2 := Ext.laid (W := A) (o := valsO q a) hq
      refine ⟨q, a, kvs, rfl, upd_same, (by
        rcases h3 with h3 | ⟨o, h3⟩
        · exact .inl (by rw [upd_ne (ne_of_none h3 hq)]; exact h3)
        · exact .inr ⟨o, by rw [upd_ne (ne_of_none h3 hq)]; exact h3⟩), fun z hz => ?_⟩
      refine Post.fresh (p1.shift (e1.trans e2) (w1.laid hq)) (w1.laid hq) hz ((rpl_vals h4).mono e2.kp)
    · exact p1.elim
end
end MV
set_option Elab.async false
set_option linter.all false
set_option maxRecDepth 100000
set_option maxHeartbeats 1000000
/-! Readings by mirrors: enumerate. -/
namespace PySem
theorem meets_enT (l : Addr) (its : Array Value) : Meets (Builtin.«enumerate.__new__» ⟨[.type "enumerate", .ref l], []⟩) (fun _ R s => s.heap.IsTuple l its ∧
    R (.ok (.ret (.ref (s.heap.push { cls := .type "tuple_iterator", data := .fields #[.ref l, .int 0 0] }).objs.size)))
      { s with heap := (s.heap.push { cls := .type "tuple_iterator", data := .fields #[.ref l, .int 0 0] }).push { cls := .type "enumerate", data := .fields #[.none, .bool false, .ref s.heap.objs.size, rawInt 0, .none, .none] } }) :=
  .of_wp fun prog w A R s h => by
    obtain ⟨hp, g, d, tk, os⟩ := s
    obtain ⟨hl, h⟩ := h
    have hsub := sub_enumerate
    have hL : Heap.IsTuple (Shared.heap ⟨hp, g, d, tk, os⟩) l its := hl
    wp_walk using wpAny_pyIter_tuple hL
    refine wpAny_stack_any (fun st => wpAny_pure ?_)
    split
    · rename_i c _ _ _ _ _
      cases (c == Value.type "enumerate") <;> (wp_walk using wpAny_pyIter_tuple hL; exact ⟨_, rfl, h⟩)
    · wp_walk using wpAny_pyIter_tuple hL
      exact ⟨_, rfl, h⟩
theorem call_enT {prog : Program} {w : World} {A : Around} {E : Value → Shared → Prop} {s : Shared} {l : Addr} {its : Array Value} {Q : Value → Shared → Prop} (hL : s.heap.IsTuple l its)
    (h : ∀ h', IsEnum h' (s.heap.objs.size + 1) s.heap.objs.size 0 .none → h'.IsTupleIter s.heap.objs.size l 0 → (∀ b o, s.heap.get? b = some o → h'.get? b = some o) → Q (.ref (s.heap.objs.size + 1)) { s with heap := h' }) :
    wpAny (model prog w) A (call (.type "enumerate") [.ref l]) Q E s := by
  refine callType_new F.called_enumerate (by decide) (F.typeCall_enumerate_1 _) (F.newCall_enumerate_1 _) (fun obj => F.args_object_init_2 obj _) F.entry_enumerate_new (meets_enT l its) ⟨hL, ?_⟩
  generalize hI : ({ cls := .type "tuple_iterator", data := .fields #[.ref l, .int 0 0] } : Obj) = oI
  generalize hE : ({ cls := .type "enumerate", data := .fields #[.none, .bool false, .ref s.heap.objs.size, rawInt 0, .none, .none] } : Obj) = oE
  have hz : (s.heap.push oI).objs.size = s.heap.objs.size + 1 := Heap.size_push ..
  have he : ((s.heap.push oI).push oE).get? (s.heap.objs.size + 1) = some oE := by
    have q := Heap.get?_push_size (s.heap.push oI) (o := oE) (by rw [← hE]; rfl)
    rw [hz] at q; exact q
  have hi : ((s.heap.push oI).push oE).get? s.heap.objs.size = some oI := Heap.get?_push_of_some _ (Heap.get?_push_size _ (by rw [← hI]; rfl))
  show _ ∧ _
  rw [hz]
  refine ⟨⟨_, he, by rw [← hE]⟩, h _ (by rw [← hE] at he ⊢; exact he) ⟨_, hi, by rw [← hI], by rw [← hI]; rfl⟩ fun b o x => Heap.get?_push_of_some _ (Heap.get?_push_of_some _ x)⟩
end PySem
namespace MV
open PySem PySem.Spec PyProof.Rows L2
/-- the tuple at a, each item in a new pair with its number -/
def IteT (K : Frg) (a : Addr) : It :=
  ⟨fun i H => ∃ (xs : List V) (x : V), SqT K H a xs ∧ xs[i]? = some x, fun i H v H' => ∃ T x, v = .ref T ∧ H T = none ∧ H' = L2.upd H T (.tup [.int (i : Nat), x]) ∧ ∀ xs, SqT K H a xs → xs[i]? = some x, fun i H => ∃ xs : List V, SqT K H a xs ∧ xs.length = i⟩
theorem turn_enT {P : Program} {w : World} {K : Frg} {elts : List Expr} {kk : Nat} {tpos : Pos} (a e it : Addr) :
    Turn P w K (.Tuple elts kk tpos) (IteT K a) [e, it] e (fun i h => (∃ old, IsEnum h e it ((i : Nat) : Int) old) ∧ h.IsTupleIter it a i ∧ e ≠ it) where
  mem := by simp
  obj := fun i h st b hb => by
    obtain ⟨⟨old, he⟩, ⟨o, ho, hc, hd⟩, _⟩ := st
    simp only [List.mem_cons, List.not_mem_nil, or_false] at hb
    rcases hb with rfl | rfl
    · exact ⟨_, he, fun v q => nomatch q⟩
    · refine ⟨o, ho, fun v q => ?_⟩
      rw [hd] at q; cases q
  keep := fun i h h' st k => by
    obtain ⟨⟨old, he⟩, hi, hne⟩ := st
    exact ⟨⟨old, k e (by simp) _ he⟩, hi.at (fun o q => k it (by simp) o q), hne⟩
  item := by
    intro X hP hw hK hc i pins s σ H E I hf st hg
    subst hP hw hK
    obtain ⟨⟨old, he⟩, hit, hne⟩ := st
    obtain ⟨xs, x, hq, hx⟩ := hg
    obtain ⟨its, rv, p, hz⟩ := I.tuple hq
    obtain ⟨u, hu, ru⟩ := rv.get hx
    have hel : e < s.heap.objs.size := Heap.lt_size he
    have hil : it < s.heap.objs.size := by obtain ⟨_, q, _⟩ := hit; exact Heap.lt_size q
    have hae : a ≠ e := fun z => by
      obtain ⟨o, e1, e2, _⟩ := p
      rw [z, he] at e1
      cases e1
      exact absurd (Value.type.inj e2) (by decide)
    have hai : a ≠ it := fun z => by
      obtain ⟨o, e1, e2, _⟩ := p
      obtain ⟨o', e3, e4, _⟩ := hit
      rw [z, e3] at e1
      cases e1
      rw [e4] at e2
      exact absurd (Value.type.inj e2) (by decide)
    have hlen : i < its.toArray.size := by
      have := (List.getElem?_eq_some_iff.mp hu).1
      simpa using this
    refine wpAny_pyNext_enum_itemD (Draws.tuple (A := X.A.in1) (I.ok.hd hc) it a hai its.toArray) he ⟨hit, p⟩ hlen hne (by simp [hne, Ne.symm hae]) fun y h' tk hy ho hst hT hsz hk => ?_
    have ey : y = u := by
      have hy : its.toArray[i]? = some y := hy
      rw [List.getElem?_toArray, hu] at hy
      cases hy; rfl
    subst ey
    refine ⟨_, rfl, wpAny_letOwnedTupleGo_enum (s := { s with heap := h', toks := tk + 1 }) ho fun h'' he' sb => ?_⟩
    have hT2 := (sb.2 _ (Nat.ne_of_gt hel)).trans hT
    have new : ObjOk X.prog X.w (L2.upd H s.heap.objs.size (.tup [.int (i : Nat), x])) h'' s.heap.objs.size (.tup [.int (i : Nat), x]) := by
      refine ⟨by show 2 ≤ sizeLine; decide, [.int i tk, y], .cons ⟨_, rfl⟩ (.cons ru .nil), ?_⟩
      exact ⟨_, hT2, rfl, _, rfl⟩
    have I1 : Inv X pins σ (L2.upd H s.heap.objs.size (.tup [.int (i : Nat), x])) { s with heap := h'', toks := tk + 1 } := by
      refine I.turnedNew (ch := [e, it]) (fun b ob hb q => ?_) hf (Nat.le_refl _) new
      exact (sb.2 b (fun z => hb (by simp [z]))).trans (hk b ob (fun z => hb (by simp [z])) (fun z => hb (by simp [z])) q)
    refine ⟨.ref s.heap.objs.size, _, I1, rfl, ⟨_, x, rfl, I.hok.fresh (Nat.le_refl _), rfl, fun ys hy => ?_⟩, ⟨⟨y, ?_⟩, hst.1.at (fun o q => (sb.2 it (Ne.symm hne)).trans q), hne⟩, fun b hb => ?_⟩
    · rw [I.tuple_inj hy hq]; exact hx
    · rw [show ((i + 1 : Nat) : Int) = (i : Int) + 1 by omega]; exact he'
    · have hb' : b < s.heap.objs.size := by
        simp only [List.mem_cons, List.not_mem_nil, or_false] at hb
        rcases hb with rfl | rfl
        · exact hel
        · exact hil
      rw [upd_ne (Nat.ne_of_lt hb')]
      exact (hf b hb).1
  done := by
    intro X hP hw hK hc i pins s σ H E I hf st hg
    subst hP hw hK
    obtain ⟨⟨old, he⟩, hit, hne⟩ := st
    obtain ⟨xs, hq, hx⟩ := hg
    obtain ⟨its, rv, p, hz⟩ := I.tuple hq
    obtain ⟨f0, f1, f2, f3, f4, f5⟩ := hf it (by simp)
    have hae : a ≠ it := fun z => by
      obtain ⟨o, e1, e2, _⟩ := p
      obtain ⟨o', e3, e4, _⟩ := hit
      rw [z, e3] at e1
      cases e1
      rw [e4] at e2
      exact absurd (Value.type.inj e2) (by decide)
    have hn : its.toArray.size = i := by rw [List.size_toArray, ← rv.length]; exact hx
    refine wpAny_pyNext_enum_endD (Draws.tuple (A := X.A.in1) (I.ok.hd hc) it a hae its.toArray) he ⟨by rw [hn]; exact hit, p⟩ fun h' eb => ⟨rfl, ?_⟩
    exact I.turned (t' := s.toks) (fun b o hb q => eb b o hb q) f0 f1 f3 f4 f5
  self := fun A i s Q E st h => by
    obtain ⟨⟨_, he⟩, _⟩ := st
    exact wpAny_pyIter_enum he h
section
variable {X : Cx} {K : Frg} {a b : Expr} {fa fb : Sx} {pos : Pos} {A A' A2 : Wd} {H H' H2 : Hp} {S S' : Sto} {Q : VK} {ρ : Envi} {σ : L2.St} {D : Ends}
def enumD (ds : List PyData) : List PyData := ds.zipIdx.map fun p => .tuple [.int (p.2 : Nat), p.1]
theorem enumD_length (ds : List PyData) : (enumD ds).length = ds.length := by simp [enumD]
theorem enumD_get {ds : List PyData} {i : Nat} {d : PyData} (h : ds[i]? = some d) : (enumD ds)[i]? = some (.tuple [.int (i : Nat), d]) := by
  simp [enumD, List.getElem?_zipIdx, h]
def iEnm (f : Sx) : SI := fun ρ S => (f ρ S).bind fun v S1 => match seqOf S1 v.th with
  | some (_, ds, g) => .ok ⟨enumD ds, g⟩ S1
  | none => .no
theorem pair_num {x : V} {d : PyData} {T : Addr} {i : Nat} (w : Wf K A S H) (hT : H T = none) (r : Rp K A.V H x d) : Ext A H A (L2.upd H T (.tup [.int (i : Nat), x])) ∧ Wf K A S (L2.upd H T (.tup [.int (i : Nat), x])) ∧ Rp K A.V (L2.upd H T (.tup [.int (i : Nat), x])) (.ref T) (.tuple [.int (i : Nat), d]) :=
  pair_new w hT (.int _) r
theorem src_enum {v : Val} {S0 : Sto} {t : Bool} {ds : List PyData} {g : List (Nat × List PyData)} {a : Addr} (h : seqOf S0 v = some (t, ds, g)) : SrcW K (if t = true then IteT K a else Ite K a) ⟨enumD ds, g⟩ (fun A H => Rv K A H (.ref a) v) := by
  refine ⟨fun A H A' H' e r => r.kx e, fun i A S H hi w r gk => ?_, fun A S H w r gk => ?_, fun i A S H x H' hi w r gk y => ?_⟩
  all_goals obtain ⟨b, xs, eb, q, sq⟩ := seq_stand h w r gk
  all_goals cases eb
  · rw [enumD_length] at hi
    obtain ⟨y, hy, _⟩ := q.get (List.getElem?_eq_getElem hi)
    cases t with
    | true => exact ⟨xs, y, sq, hy⟩
    | false => exact ⟨xs, y, sq, hy⟩
  · rw [enumD_length]
    cases t with
    | true => exact ⟨xs, sq, q.length⟩
    | false => exact ⟨xs, sq, Nat.le_of_eq q.length⟩
  · have fin : ∃ T x', x = .ref T ∧ H T = none ∧ H' = L2.upd H T (.tup [.int (i : Nat), x']) ∧ xs[i]? = some x' := by
      cases t with
      | true => obtain ⟨T, x', e1, e2, e3, f1⟩ := y; exact ⟨T, x', e1, e2, e3, f1 xs sq⟩
      | false => obtain ⟨T, x', e1, e2, e3, f1⟩ := y; exact ⟨T, x', e1, e2, e3, f1 xs sq⟩
    obtain ⟨T, x', rfl, hT, rfl, f1⟩ := fin
    obtain ⟨d, h1, r1⟩ := q.getV f1
    obtain ⟨n1, n2, n3⟩ := pair_num (i := i) w hT r1
    exact ⟨_, enumD_get h1, n1, n2, n3⟩
theorem two_fp {pins : List (Addr × Obj)} {s : Shared} (I : Inv X pins σ H s) : ∀ b ∈ [s.heap.objs.size + 1, s.heap.objs.size], FpOk X pins H b := fun b hb => by
  have hle : s.heap.objs.size ≤ b := by
    simp only [List.mem_cons, List.not_mem_nil, or_false] at hb
    omega
  exact I.fpOk hle (I.hok.fresh hle)
theorem iEn {e : Expr} {f : Sx} {p tpos : Pos} {elts : List Expr} {kk : Nat} (hg : Gl X "enumerate") (hm : X.mg "enumerate" = none) (ha : PE X e (tE X.K f)) (hs : starEach [e] X.env = [(false, eval e X.env)] := by rfl) :
    PI X (.Tuple elts kk tpos) (.Call (.Name "enumerate" p) [e] [] pos) (tI X.K (iEnm f)) := ⟨fun pins s σ H R I h => by
  obtain ⟨A, S, ρ, w, env, p⟩ := h
  refine Call_ (ld_blt I hg hm boot_enumerate (PyProof.Rows.callWith_type1 (thn ((pa_cons ha pa_nil hs).run pos pins s σ H (fun xs H1 => ∃ a S1 v t ds g, xs = [.ref a] ∧ Wf X.K A S1 H1 ∧ Rv X.K A H1 (.ref a) v ∧ seqOf S1 v = some (t, ds, g) ∧ ∀ J B, SrcW X.K J ⟨enumD ds, g⟩ B → B A H1 → R J H1) I ⟨A, S, ρ, w, env, ?_⟩) fun us s1 ⟨vs, H1, I1, r1, a, S1, v, t, ds, g, ex, w1, ru, hq, q⟩ => ?_) hs rfl))
  · refine Post.seq (P := PostI X.K A H R) p (fun h => h) (fun _ _ h => h) fun v S1 x H1 e1 w1 r1 p1 => ?_
    split at p1
    · rename_i t ds g hq
      obtain ⟨a, xs, rfl, _, _⟩ := seq_at hq w1 r1
      exact ⟨a, S1, v.th, t, ds, g, rfl, w1, r1, hq, fun J B sw b => p1 J B H1 e1 w1 sw b⟩
    · exact p1.elim
  · subst ex
    cases r1 with | cons r rr =>
    cases rr
    cases r
    obtain ⟨b, xs, eb, _, sq⟩ := seq_at hq w1 ru
    cases eb
    have fin := q _ _ (src_enum hq) ru
    cases t with
    | true =>
      obtain ⟨its, rv, ht, hz⟩ := I1.tuple (show SqT X.K H1 a xs from sq)
      refine call_enT (show s1.heap.IsTuple a its.toArray from ht) fun h' he hit hk => wpAny_pyIter_enum he ?_
      have I2 : Inv X pins σ H1 { s1 with heap := h' } := I1.kept (t' := s1.toks) hk
      exact ⟨s1.heap.objs.size + 1, [s1.heap.objs.size + 1, s1.heap.objs.size], _, _, H1, rfl, I2, turn_enT a (s1.heap.objs.size + 1) s1.heap.objs.size, ⟨⟨.none, he⟩, hit, Nat.succ_ne_self _⟩, two_fp I1, fin⟩
    | false =>
      obtain ⟨its, rv, pl, hz⟩ := I1.list (show SqL X.K H1 a xs from sq)
      refine call_enumerate_list pl.isList fun h' he hit _ hk => wpAny_pyIter_enum he ?_
      have I2 : Inv X pins σ H1 { s1 with heap := h' } := I1.kept (t' := s1.toks) hk
      exact ⟨s1.heap.objs.size + 1, [s1.heap.objs.size + 1, s1.heap.objs.size], _, _, H1, rfl, I2, turn_enum a (s1.heap.objs.size + 1) s1.heap.objs.size, ⟨⟨.none, he⟩, hit, Nat.succ_ne_self _⟩, two_fp I1, fin⟩⟩
end
end MV
set_option Elab.async false
set_option linter.all false
set_option maxRecDepth 100000
set_option maxHeartbeats 1000000
/-! Readings by mirrors: sorted(set(..)), len(set(..)). -/
namespace MV
open PySem PySem.Spec PyProof.Rows L2
/-! ### each once -/
section
variable {α : Type} [DecidableEq α]
def dd : List α → List α
  | [] => []
  | x :: xs => if x ∈ xs then dd xs else x :: dd xs
@[simp] theorem mem_dd {a : α} : ∀ {xs : List α}, a ∈ dd xs ↔ a ∈ xs
  | [] => by simp [dd]
  | x :: xs => by
    unfold dd
    split
    · rename_i h
      rw [mem_dd, List.mem_cons]
      exact ⟨.inr, fun q => q.elim (fun e => e ▸ h) id⟩
    · rw [List.mem_cons, List.mem_cons, mem_dd]
theorem nodup_dd : ∀ (xs : List α), (dd xs).Nodup
  | [] => .nil
  | x :: xs => by
    unfold dd
    split
    · exact nodup_dd xs
    · rename_i h
      exact List.nodup_cons.mpr ⟨by rw [mem_dd]; exact h, nodup_dd xs⟩
theorem dd_of_nodup : ∀ {xs : List α}, xs.Nodup → dd xs = xs
  | [], _ => rfl
  | x :: xs, h => by
    obtain ⟨h1, h2⟩ := List.nodup_cons.mp h
    unfold dd
    rw [if_neg h1, dd_of_nodup h2]
theorem dd_len : ∀ (xs : List α), (dd xs).length ≤ xs.length
  | [] => Nat.le_refl _
  | x :: xs => by
    unfold dd
    have := dd_len xs
    split
    · rw [List.length_cons]; omega
    · rw [List.length_cons, List.length_cons]; omega
theorem dd_full : ∀ {xs : List α}, (dd xs).length = xs.length → xs.Nodup
  | [], _ => .nil
  | x :: xs, h => by
    have h1 := dd_len xs
    unfold dd at h
    split at h
    · rw [List.length_cons] at h; omega
    · rename_i hx
      rw [List.length_cons, List.length_cons] at h
      exact List.nodup_cons.mpr ⟨hx, dd_full (by omega)⟩
end
def pairsI : List PyData → Option (List (Int × Int))
  | [] => some []
  | .tuple [.int a, .int b] :: r => (pairsI r).map ((a, b) :: ·)
  | _ :: _ => none
theorem pairsI_ok : ∀ {ds : List PyData} {ps : List (Int × Int)}, pairsI ds = some ps → ds = ps.map fun p => .tuple [.int p.1, .int p.2]
  | [], _, h => by cases h; rfl
  | d :: ds, ps, h => by
    unfold pairsI at h
    split at h
    · rename_i q; cases q
    · rename_i a b r e
      cases e
      cases q : pairsI ds with
      | none => rw [q] at h; cases h
      | some qs => rw [q] at h; cases h; rw [pairsI_ok q]; rfl
    · cases h
theorem pairsI_map : ∀ ps : List (Int × Int), pairsI (ps.map fun p => .tuple [.int p.1, .int p.2]) = some ps
  | [] => rfl
  | p :: ps => by
    show (pairsI (ps.map fun p => .tuple [.int p.1, .int p.2])).map ((p.1, p.2) :: ·) = _
    rw [pairsI_map ps]; rfl
def pleb (p q : Int × Int) : Bool := decide (p.1 < q.1 ∨ (p.1 = q.1 ∧ p.2 ≤ q.2))
section
variable {X : Cx} {K : Frg} {a b : Expr} {fa fb : Sx} {pos : Pos} {A A' A2 : Wd} {H H' H2 : Hp} {S S' : Sto} {Q : VK} {ρ : Envi} {σ : L2.St} {D : Ends}
/-! ### sorted(set(t)) of a tuple of whole numbers, sorted(set(l)) of a list of pairs from 0 to 999 -/
def gSorSet : Val → Sto → Res Val
  | .d (.tuple ds), S => match intsOf ds with
    | some ns => if ns.length < 60 then .ok (.f (.lst (((dd ns).mergeSort fun a b => decide (a ≤ b)).map .int))) S else .no
    | none => .no
  | v, S => match (asR S v).bind pairsI with
    | some ps => if ps.length < 64 ∧ ps.all (fun p => decide (0 ≤ p.1 ∧ p.1 < 1000 ∧ 0 ≤ p.2 ∧ p.2 < 1000)) = true then .ok (.f (.lst (((dd ps).mergeSort pleb).map fun p => .tuple [.int p.1, .int p.2]))) S else .no
    | none => .no
def evSortedSet (f : Sx) : Sx := fun ρ S => (f ρ S).bind fun v S1 => gSorSet v.th S1
theorem cr_setTI (hc : X.calm = true) : CallR X (.type "set") (fun xs H Q => ∃ (l : Addr) (ns : List Int), xs = [.ref l] ∧ SqT X.K H l (ns.map V.int) ∧ ns.length < 64 ∧ ∀ a c, H a = none → c ≤ ns.length → Q (.ref a) (L2.upd H a (SetO X.w a (fun j => decide (j ∈ ns)) c))) := by
  intro pins s σ H xs us Q I r h
  obtain ⟨l, ns, rfl, hl, hf, q⟩ := h
  rw [Vals.ref1 r]
  obtain ⟨its, rv, pl, hz⟩ := I.tuple hl
  refine call_set_tupI (P := X.prog) (w := X.w) ns (I.ok.hd hc) (show s.heap.IsTuple l its.toArray from pl) (by simpa using rv.ints) (by unfold scanBound; omega) fun h' tk c R hcn k => ?_
  exact ⟨.ref s.heap.objs.size, _, I.laid (t' := tk) k (Nat.le_refl _) (setO_new R), rfl, q _ c (I.hok.fresh (Nat.le_refl _)) hcn⟩
theorem pairs_addr {L : List Addr} : ∀ {ps : List (Int × Int)} {xs : List V}, RpL K L H xs (ps.map fun p => .tuple [.int p.1, .int p.2]) →
    ∃ ks : List (Addr × List Int), xs = ks.map (fun k => V.ref k.1) ∧ ks.map (·.2) = ps.map (fun p => [p.1, p.2]) ∧ ∀ k ∈ ks, Rp K L H (.ref k.1) (.tuple (k.2.map .int)) ∧ SqT K H k.1 (k.2.map V.int)
  | [], _, r => by cases r; exact ⟨[], rfl, rfl, fun k hk => by cases hk⟩
  | p :: ps, xs, r => by
    have r : RpL K L H xs (.tuple [.int p.1, .int p.2] :: ps.map fun p => .tuple [.int p.1, .int p.2]) := r
    cases r with | cons r1 r2 =>
    obtain ⟨ks, e1, e2, e3⟩ := pairs_addr r2
    have r1' := r1
    cases r1 with | tup l t =>
    rename_i a ys
    cases t with | cons t1 t =>
    cases t with | cons t2 t =>
    cases t
    cases t1
    cases t2
    refine ⟨(a, [p.1, p.2]) :: ks, by rw [e1]; rfl, by rw [List.map_cons, e2]; rfl, fun k hk => ?_⟩
    rcases List.mem_cons.mp hk with rfl | hk
    · exact ⟨r1', l.seq⟩
    · exact e3 k hk
def unL (l : List Int) : Int × Int := (l.getD 0 0, l.getD 1 0)
theorem code_lex {a b c d : Int} (h : TS.code 1000 [a, b] ≤ TS.code 1000 [c, d]) (b1 : 0 ≤ a ∧ a < 1000) (b2 : 0 ≤ b ∧ b < 1000) (b3 : 0 ≤ c ∧ c < 1000) (b4 : 0 ≤ d ∧ d < 1000) : pleb (a, b) (c, d) = true := by
  have e : ∀ x y : Int, TS.code 1000 [x, y] = x * 1000 + y := fun x y => by
    show x * 1000 ^ 1 + (y * 1000 ^ 0 + 0) = _
    simp
  rw [e, e] at h
  unfold pleb
  simp only [decide_eq_true_eq]
  omega
theorem pleb_anti {p q : Int × Int} (h1 : pleb p q = true) (h2 : pleb q p = true) : p = q := by
  unfold pleb at h1 h2
  simp only [decide_eq_true_eq] at h1 h2
  exact Prod.ext (by omega) (by omega)
theorem psort_eq {ys ps : List (Int × Int)} (h1 : ys.Perm ps) (h2 : ys.Pairwise fun p q => pleb p q = true) : ys = ps.mergeSort pleb := by
  refine List.Perm.eq_of_pairwise (le := fun p q => pleb p q = true) (fun a b _ _ h1 h2 => pleb_anti h1 h2) h2 ?_ (h1.trans (List.mergeSort_perm _ _).symm)
  refine List.pairwise_mergeSort (fun a b c h1 h2 => ?_) (fun a b => ?_) ps
  · unfold pleb at *
    simp only [decide_eq_true_eq] at *
    omega
  · unfold pleb
    simp only [Bool.or_eq_true, decide_eq_true_eq]
    omega
theorem sqT_laid {a b : Addr} {xs : List V} {o : HO} (h : SqT K H a xs) (hb : H b = none) : SqT K (L2.upd H b o) a xs := by
  rcases h with (h | ⟨o', h⟩) | h
  · exact .inl (.inl (by rw [upd_ne (ne_of_none h hb)]; exact h))
  · exact .inl (.inr ⟨o', by rw [upd_ne (ne_of_none h hb)]; exact h⟩)
  · exact .inr h
theorem eSortedSet {e : Expr} {f : Sx} {p p2 q : Pos} (hc : X.calm = true) (hu : X.A.units + 100 < cLine) (hg : Gl X "sorted") (hm : X.mg "sorted" = none) (hg2 : Gl X "set") (hm2 : X.mg "set" = none) (ha : PE X e (tE X.K f))
    (hs : starEach [e] X.env = (false, eval e X.env) :: starEach [] X.env := by rfl) : PE X (.Call (.Name "sorted" p) [.Call (.Name "set" p2) [e] [] q] [] pos) (tE X.K (evSortedSet f)) :=
  PEi (pe_callB (CallR.or (cr_sortedSet hc) (cr_sortedT hc)) hg hm (by decide +kernel) (pa_cons (pe_callTy (CallR.or (cr_setTI hc) (cr_setOfT hc (by omega))) hg2 hm2 (by decide +kernel) (pa_cons ha pa_nil hs) (by decide) (by decide) hs) pa_nil)) fun σ H Q ⟨A, S, ρ, w, env, p⟩ =>
  at_seq (P := Post X.K A H Q) w env p (fun h => h) (fun _ _ h => h) fun v S1 x H1 e1 w1 r1 p1 => by
    unfold gSorSet at p1
    split at p1
    · rename_i ds hv
      rw [hv] at r1
      split at p1
      case h_2 => exact p1.elim
      rename_i ns hns
      split at p1
      case isFalse => exact p1.elim
      rename_i hl
      have e := intsOf_ok hns
      subst e
      have r1 : Rp X.K A.V H1 x (.tuple (ns.map .int)) := r1
      cases r1 with | tup l t =>
      rename_i a xs
      have e := t.ints
      subst e
      refine .inl ⟨a, ns, rfl, l.seq, by omega, fun a2 c ha2 hcn => .inl ⟨a2, _, c, rfl, upd_same, by omega, fun ns' p3 h1 h2 h3 hp3 => ?_⟩⟩
      have e4 : ns' = (dd ns).mergeSort fun a b => decide (a ≤ b) := by
        refine isort_eq ?_ (h1.imp fun h => by omega)
        refine (List.perm_ext_iff_of_nodup (h1.imp fun h => by omega) (nodup_dd ns)).mpr fun k => ?_
        rw [h2, mem_dd, decide_eq_true_iff]
      rw [e4]
      have e5 := Ext.laid (W := A) (o := SetO X.w a2 (fun j => decide (j ∈ ns)) c) ha2
      exact Post.fresh (p1.shift (e1.trans e5) (w1.laid ha2)) (w1.laid ha2) hp3 (RpL.of_ints _)
    · split at p1
      case h_2 => exact p1.elim
      rename_i ps hps
      split at p1
      case isFalse => exact p1.elim
      rename_i hl
      obtain ⟨ds, g1, g2⟩ := Option.bind_eq_some_iff.mp hps
      obtain ⟨a, xs, rfl, g3, g4⟩ := asR_ok w1 r1 g1
      have e := pairsI_ok g2
      subst e
      obtain ⟨ks, e1', e2, e3⟩ := pairs_addr g4
      subst e1'
      have hlen : ks.length = ps.length := by
        have := congrArg List.length e2
        simpa using this
      have form : ∀ k ∈ ks, ∃ q ∈ ps, k.2 = [q.1, q.2] := fun k hk => by
        have : k.2 ∈ ks.map (·.2) := List.mem_map_of_mem hk
        rw [e2] at this
        obtain ⟨q, h1, h2⟩ := List.mem_map.mp this
        exact ⟨q, h1, h2.symm⟩
      have bd : ∀ q ∈ ps, (0 ≤ q.1 ∧ q.1 < 1000) ∧ 0 ≤ q.2 ∧ q.2 < 1000 := fun q hq => by
        have := List.all_eq_true.mp hl.2 q hq
        simp only [decide_eq_true_eq] at this
        omega
      refine .inr ⟨a, ks, rfl, g3, fun k hk => (e3 k hk).2, by omega, fun a2 L ha2 hL1 hL2 => .inr ⟨a2, L, 2, 1000, rfl, upd_same, fun k hk => ?_, by decide, fun k hk => ?_, fun L' p3 h1 h2 h3 h4 hp3 => ?_⟩⟩
      · exact sqT_laid (e3 k (hL1 k hk)).2 ha2
      · obtain ⟨q, hq, e4⟩ := form k (hL1 k hk)
        rw [e4]
        refine ⟨rfl, fun m hm => ?_⟩
        have := bd q hq
        simp at hm
        rcases hm with rfl | rfl
        · exact this.1
        · exact this.2
      · have formL : ∀ k ∈ L', ∃ q ∈ ps, k.2 = [q.1, q.2] := fun k hk => form k (hL1 k (h1.mem_iff.mp hk))
        have e5 : L'.map (fun k => unL k.2) = (dd ps).mergeSort pleb := by
          refine psort_eq ((List.perm_ext_iff_of_nodup ?_ (nodup_dd ps)).mpr fun q => ?_) ?_
          · rw [List.Nodup, List.pairwise_map]
            have h2' : L'.Pairwise fun k k' => k.2 ≠ k'.2 := List.pairwise_map.mp h2
            refine h2'.imp_of_mem fun {k k'} hk hk' ne e => ne ?_
            obtain ⟨q, _, q1⟩ := formL k hk
            obtain ⟨q', _, q2⟩ := formL k' hk'
            rw [q1, q2] at e ⊢
            simp [unL] at e
            rw [e.1, e.2]
          · rw [mem_dd]
            constructor
            · intro hq
              obtain ⟨k, hk, e⟩ := List.mem_map.mp hq
              obtain ⟨q', hq', e'⟩ := formL k hk
              rw [e'] at e
              rw [← e]; exact hq'
            · intro hq
              have m1 : ([q.1, q.2] : List Int) ∈ ks.map (·.2) := by rw [e2]; exact List.mem_map_of_mem (f := fun p : Int × Int => [p.1, p.2]) hq
              obtain ⟨k, hk, ek⟩ := List.mem_map.mp m1
              obtain ⟨k2, hk2, ek2⟩ := List.mem_map.mp (hL2 k hk)
              refine List.mem_map.mpr ⟨k2, h1.mem_iff.mpr hk2, ?_⟩
              have e7 : k2.2 = [q.1, q.2] := ek2.trans ek
              rw [e7]; rfl
          · rw [List.pairwise_map]
            refine h4.imp_of_mem fun {k k'} hk hk' h => ?_
            obtain ⟨q, hq, e⟩ := formL k hk
            obtain ⟨q', hq', e'⟩ := formL k' hk'
            rw [e, e'] at h
            rw [e, e']
            exact code_lex h (bd q hq).1 (bd q hq).2 (bd q' hq').1 (bd q' hq').2
        have e6 : ((dd ps).mergeSort pleb).map (fun p => PyData.tuple [.int p.1, .int p.2]) = L'.map fun k => .tuple (k.2.map .int) := by
          rw [← e5, List.map_map]
          refine List.map_congr_left fun k hk => ?_
          obtain ⟨q, _, e⟩ := formL k hk
          simp only [Function.comp, e]; rfl
        rw [e6] at p1
        have ex := Ext.laid (W := A) (o := SetTO X.prog X.w a2 L) ha2
        refine Post.fresh (p1.shift (e1.trans ex) (w1.laid ha2)) (w1.laid ha2) hp3 ?_
        have all : ∀ M : List (Addr × List Int), (∀ k ∈ M, k ∈ ks) → RpL X.K A.V (L2.upd H1 a2 (SetTO X.prog X.w a2 L)) (M.map fun q => V.ref q.1) (M.map fun k => PyData.tuple (k.2.map .int)) := by
          intro M
          induction M with
          | nil => intro _; exact .nil
          | cons k M ih =>
            intro h
            exact .cons ((e3 k (h k (by simp))).1.mono ex.kp) (ih fun k' hk' => h k' (List.mem_cons_of_mem _ hk'))
        exact all L' fun k hk => hL1 k (h1.mem_iff.mp hk)
/-! ### len(set(l)) of a list of whole numbers -/
theorem first_nodup (val : Nat → Int) : ∀ i, (firstMet val i).Nodup
  | 0 => by rw [firstMet_zero]; exact .nil
  | i + 1 => by
    have ih := first_nodup val i
    rw [firstMet_succ]
    unfold step_dedup
    split
    · exact ih
    · rename_i h
      rw [List.nodup_append]
      refine ⟨ih, by simp, fun x hx y hy e => h ?_⟩
      rw [List.mem_singleton.mp hy] at e
      subst e
      exact List.any_eq_true.mpr ⟨_, hx, by simp⟩
theorem first_len (ns : List Int) : (firstMet (fun i => ns.getD i 0) ns.length).length = (dd ns).length := by
  refine List.Perm.length_eq ((List.perm_ext_iff_of_nodup (first_nodup _ _) (nodup_dd ns)).mpr fun k => ?_)
  rw [mem_dd]
  have h := firstMet_any (fun i => ns.getD i 0) ns.length k
  have e : (List.range ns.length).map (fun i => ns.getD i 0) = ns := by
    refine List.ext_getElem (by simp) fun i h1 h2 => ?_
    simp [List.getD_eq_getElem?_getD, List.getElem?_eq_getElem h2]
  rw [e] at h
  have g : ∀ l : List Int, l.any (· == k) = true ↔ k ∈ l := fun l => by simp
  rw [← g, ← g, h]
def evLenSet (f : Sx) : Sx := fun ρ S => (f ρ S).bind fun v S1 => match (asR S1 v.th).bind intsOf with
  | some ns => if ns.length ≤ 4000 then .ok (.d (.int (dd ns).length)) S1 else .no
  | none => .no
theorem cr_setLI (hc : X.calm = true) : CallR X (.type "set") (fun xs H Q => ∃ (l : Addr) (ns : List Int), xs = [.ref l] ∧ SqL X.K H l (ns.map V.int) ∧ ns.length ≤ 4000 ∧ ∀ a, H a = none → Q (.ref a) (L2.upd H a (.set (fun j => (firstMet (fun i => ns.getD i 0) ns.length).any (· == j)) (dd ns).length))) := by
  intro pins s σ H xs us Q I r h
  obtain ⟨l, ns, rfl, hl, hf, q⟩ := h
  rw [Vals.ref1 r]
  obtain ⟨its, rv, pl, hz⟩ := I.list hl
  have hn : its.toArray.size = ns.length := by rw [List.size_toArray, ← rv.length, List.length_map]
  refine call_set_list (I.ok.hd hc) pl.isList (ns := ns) (by simpa using rv.ints) (by unfold scanBound; omega) fun h' tk hS k => ?_
  rw [hn, first_len] at hS
  exact ⟨.ref s.heap.objs.size, _, I.laid (t' := tk) (fun b o e => k b o (Heap.lt_size e) e) (Nat.le_refl _) (show ObjOk X.prog X.w _ _ _ (.set _ _) from hS), rfl, q _ (I.hok.fresh (Nat.le_refl _))⟩
theorem cr_lenSetI : CallR X (.builtin "len") (fun xs H Q => ∃ (a : Addr) (T : Int → Bool) (n : Nat), xs = [.ref a] ∧ H a = some (.set T n) ∧ n ≤ 4000 ∧ Q (.int n) H) := by
  intro pins s σ H xs us Q I r h
  obtain ⟨a, T, n, rfl, ha, hn, q⟩ := h
  rw [Vals.ref1 r]
  have hS : s.heap.SetOf (intKind X.prog X.w) a T n := I.hok a _ ha
  obtain ⟨o, es, ep, t, ho, hex, hd, _, _, _, hf, hn2⟩ := hS
  refine call_len_set ho hex hd hf (by rw [hn2]; omega) ⟨.int n, H, I.tok _, ⟨_, by rw [hn2]⟩, q⟩
theorem eLenSet {e : Expr} {f : Sx} {p p2 q : Pos} (hc : X.calm = true) (hu : X.A.units + 100 < cLine) (hg : Gl X "len") (hm : X.mg "len" = none) (hg2 : Gl X "set") (hm2 : X.mg "set" = none) (ha : PE X e (tE X.K f))
    (hs : starEach [e] X.env = (false, eval e X.env) :: starEach [] X.env := by rfl) : PE X (.Call (.Name "len" p) [.Call (.Name "set" p2) [e] [] q] [] pos) (tE X.K (evLenSet f)) :=
  PEi (pe_callB cr_lenSetI hg hm (by decide +kernel) (pa_cons (pe_callTy (cr_setLI hc) hg2 hm2 (by decide +kernel) (pa_cons ha pa_nil hs) (by decide) (by decide) hs) pa_nil)) fun σ H Q ⟨A, S, ρ, w, env, p⟩ =>
  at_seq (P := Post X.K A H Q) w env p (fun h => h) (fun _ _ h => h) fun v S1 x H1 e1 w1 r1 p1 => by
    split at p1
    case h_2 => exact p1.elim
    rename_i ns hns
    split at p1
    case isFalse => exact p1.elim
    rename_i hl
    obtain ⟨ds, g1, g2⟩ := Option.bind_eq_some_iff.mp hns
    obtain ⟨a, xs, rfl, g3, g4⟩ := asR_ok w1 r1 g1
    have e := intsOf_ok g2
    subst e
    have e := g4.ints
    subst e
    have hdd := dd_len ns
    refine ⟨a, ns, rfl, g3, hl, fun a2 ha2 => ⟨a2, _, _, rfl, upd_same, by omega, ?_⟩⟩
    have ex := Ext.laid (W := A) (o := HO.set (fun j => (firstMet (fun i => ns.getD i 0) ns.length).any (· == j)) (dd ns).length) ha2
    exact p1 _ _ (e1.trans ex) (w1.laid ha2) (.int _)
end
end MV
set_option Elab.async false
set_option linter.all false
set_option maxRecDepth 100000
set_option maxHeartbeats 1000000
/-! Readings by mirrors: x[::-1]. -/
namespace MV
open PySem PySem.Spec PyProof.Rows L2 HT
section
variable {prog : Program} {w : World} {A : Around} {E : Value → Shared → Prop} {s : Shared}
theorem adj_rev (n : Nat) : Builtin.Slice.sliceAdjust none none (-1) (n : Int) = ((n : Int) - 1, -1) := by
  simp [Builtin.Slice.sliceAdjust]
theorem places_rev (n : Nat) : Builtin.Slice.slicePlaces ((n : Int) - 1) (-1) (-1) = n := by
  unfold Builtin.Slice.slicePlaces
  rw [if_neg (by decide)]
  by_cases h : (n : Int) - 1 > -1
  · rw [if_pos h, show (-(-1) : Int) = 1 by decide, Int.ediv_one]; omega
  · rw [if_neg h]; omega
theorem pick_rev (xs : Array Value) : ((List.range xs.size).filterMap fun (m : Nat) => xs[((xs.size : Int) - 1 + (m : Int) * (-1)).toNat]?).toArray = xs.toList.reverse.toArray := by
  have e : (fun (m : Nat) => xs[((xs.size : Int) - 1 + (m : Int) * (-1)).toNat]?) = fun m => xs[xs.size - 1 - m]? := by
    funext m
    rw [show ((xs.size : Int) - 1 + (m : Int) * (-1)).toNat = xs.size - 1 - m by omega]
  rw [e]
  have h := PySem.W.krv_range xs.size
  have h2 : (List.range xs.size).filterMap (fun m => xs[xs.size - 1 - m]?) = ((List.range xs.size).map fun k => xs.size - 1 - k).filterMap (xs[·]?) := by
    rw [List.filterMap_map]; rfl
  rw [h2, h, List.filterMap_reverse, PySem.W.krv_all]
theorem applied_rev {sl : Addr} {vk : Value} {n : Nat} {Q : Int × Int × Nat → Shared → Prop} (hs : s.heap.IsSliceOf sl .none .none vk) (pk : IsPart vk (some (-1)))
    (h : Q ((n : Int) - 1, -1, n) s) : wpAny (model prog w) A (Builtin.Slice.sliceApplied (.ref sl) (pure (n : Int))) Q E s := by
  obtain ⟨os, hos, hcs, hds⟩ := id hs
  unfold Builtin.Slice.sliceApplied Builtin.Slice.sliceFields
  refine wpAny_bind (wpAny_bind (wpAny_field hos hds (x := .none) rfl (wpAny_bind (wpAny_field hos hds (x := .none) rfl (wpAny_bind (wpAny_field hos hds (x := vk) rfl (wpAny_pure ?_)))))))
  refine wpAny_bind (slicePart_ pk ?_)
  show wpAny _ _ (if ((-1 : Int) == 0) = true then _ else _) _ _ s
  rw [if_neg (by decide)]
  refine wpAny_bind (slicePart_none (wpAny_bind (slicePart_none (wpAny_bind (wpAny_pure ?_)))))
  show wpAny _ _ (match Builtin.Slice.sliceAdjust none none (-1) (n : Int) with | (lo, hi) => pure (lo, (-1 : Int), Builtin.Slice.slicePlaces lo hi (-1))) _ _ s
  rw [adj_rev n]
  show wpAny _ _ (pure ((n : Int) - 1, (-1 : Int), Builtin.Slice.slicePlaces ((n : Int) - 1) (-1) (-1))) _ _ s
  rw [places_rev]
  exact wpAny_pure h
theorem getItem_tuple_rev {t sl : Addr} {items : Array Value} {vk : Value} {Q : Value → Shared → Prop} (ht : IsTup s.heap t items) (hs : s.heap.IsSliceOf sl .none .none vk) (pk : IsPart vk (some (-1)))
    (h : Q (.ref s.heap.objs.size) { s with heap := s.heap.push { cls := .type "tuple", data := .seq items.toList.reverse.toArray } }) (hsz : items.size ≤ sizeLine) : wpAny (model prog w) A (getItem (.ref t) (.ref sl)) Q E s := by
  have hz : sizeOk (.seq items.toList.reverse.toArray) := by
    show items.toList.reverse.toArray.size ≤ sizeLine
    rw [List.size_toArray, List.length_reverse, Array.length_toList]; exact hsz
  obtain ⟨os, hos, hcs, hds⟩ := id hs
  have hTs : s.TypeIs (.ref sl) "slice" := ⟨os, hos, hcs⟩
  unfold getItem
  try with_reducible refine wpAny_holding ?_
  first | refine wpAny_bind (wpAny_pure ?_) | skip
  refine wpAny_bind (wpAny_sequenceKey ht.typeIs (by decide) ?_)
  refine wpAny_bind (wpAny_callSpecial?_slot (name := Str.ofString "__getitem__") ht.typeIs PyProof.Rows.slot_tuple_getitem (wpAny_call_entry PyProof.Rows.slot_tuple_getitem ht.typeIs entry_tuple_getitem ?_ (args_tuple_getitem _ _)))
  show wpAny _ _ (Builtin.Tuple.tupleItemsOf (.ref t) >>= _) _ _ s
  refine wpAny_bind (tupleItemsOf_ ht (wpAny_bind (wpAny_typeOf hTs ?_)))
  rw [if_pos (by decide)]
  refine wpAny_bind (applied_rev hs pk ?_)
  have hno : ¬ ((((items.size : Int) - 1) == 0 && (-1 : Int) == 1 && items.size == items.size) = true) := by
    rw [show ((-1 : Int) == 1) = false by decide]; simp
  show wpAny _ _ (if (((items.size : Int) - 1) == 0 && (-1 : Int) == 1 && items.size == items.size) = true then _ else _) _ _ s
  rw [if_neg hno, pick_rev]
  first
    | exact wpAny_bind (m := Builtin.Tuple.tupleExact _) (wpAny_newObj_type (wpAny_pure ⟨_, rfl, wpAny_pure h⟩) hz)
    | exact wpAny_bind (m := Builtin.Tuple.tupleExact _) (wpAny_newObj_type (wpAny_bind (wpAny_pure (wpAny_pure ⟨_, rfl, wpAny_pure h⟩))) hz)
    | exact wpAny_bind (wpAny_bind (m := Builtin.Tuple.tupleExact _) (wpAny_newObj_type (wpAny_pure (wpAny_pure ⟨_, rfl, wpAny_pure h⟩)) hz))
    | exact wpAny_bind (wpAny_bind (m := Builtin.Tuple.tupleExact _) (wpAny_newObj_type (wpAny_pure ⟨_, rfl, wpAny_pure h⟩) hz))
end
section
variable {X : Cx} {K : Frg} {a b : Expr} {fa fb : Sx} {pos : Pos} {A A' A2 : Wd} {H H' H2 : Hp} {S S' : Sto} {Q : VK} {ρ : Envi} {σ : L2.St} {D : Ends}
/-- x[::-1], by values: the slice stands at sl -/
def tRev (K : Frg) (te : TE) : TE := fun σ H Q => te σ H fun x H1 => ∃ a xs, x = .ref a ∧ ((SqT K H1 a xs ∧ ∀ p, H1 p = none → Q (.ref p) (L2.upd H1 p (.tup xs.reverse))) ∨ (SqL K H1 a xs ∧ ∀ p, H1 p = none → Q (.ref p) (L2.upd H1 p (.lst xs.reverse))))
theorem pe_rev {e : Expr} {te : TE} {c : Nat} {p1 p2 p3 : Pos} (he : PE X e te) : PE X (.Subscript e (.Slice none none (some (.UnaryOp .USub (.Constant (.int 1) c p1) p2)) p3) pos) (tRev X.K te) := by
  refine ⟨fun pins s σ H Q I h => ?_⟩
  refine Subscript_ (thn (he.run pins s σ H _ I h) fun v s1 ⟨x, H1, I1, r1, q1⟩ => ?_)
  have hp : PO X (some (.UnaryOp .USub (.Constant (.int 1) c p1) p2)) (tPart (tUn (fun x H Q => ∃ i, x = V.int i ∧ Q (.int (-i)) H) (tC (.int 1)))) := po_some (pe_un un_neg pe_int)
  refine wpAny_Slice ?_
  rw [evalPart_none]
  refine wpAny_pure (wpAny_pure ?_)
  refine thn (hp.run pins s1 σ H1 (fun o H2 => o = some (-1) ∧ H2 = H1) I1 ⟨1, rfl, -1, rfl, rfl, rfl⟩) fun vk s3 ⟨o, H2, I3, pk, eo, eH⟩ => ?_
  subst eo eH
  have I4 : Inv X pins σ H2 { s3 with heap := s3.heap.push { cls := .type "slice", data := .fields #[.none, .none, vk] } } := I3.kept (t' := s3.toks) fun b ob q => Heap.get?_push_of_some _ q
  have hsl : (s3.heap.push { cls := .type "slice", data := .fields #[.none, .none, vk] }).IsSliceOf s3.heap.objs.size .none .none vk := Heap.IsSliceOf.new ..
  obtain ⟨a, xs, ex, q1⟩ := q1
  subst ex
  cases r1
  show wpAny (model X.prog X.w) X.A (subscriptTail e (.Slice none none (some (.UnaryOp .USub (.Constant (.int 1) c p1) p2)) p3) (.ref a) (.ref s3.heap.objs.size)) (EP X pins σ Q) X.xe { s3 with heap := s3.heap.push { cls := .type "slice", data := .fields #[.none, .none, vk] } }
  rcases q1 with ⟨hq, q⟩ | ⟨hq, q⟩
  · obtain ⟨its, r, ht, hz⟩ := I4.tuple hq
    have hz' : its.toArray.size ≤ sizeLine := by rw [List.size_toArray, ← r.length]; exact hz
    refine tail_any (T := "tuple") (ops := [.ref a, .ref s3.heap.objs.size]) ht.typeIs PyProof.Rows.slot_tuple_getitem.lookup (getItem_tuple_rev ht hsl pk ?_ hz') (by with_unfolding_all rfl)
    refine ⟨.ref _, _, I4.laid (t' := s3.toks) (o := .tup xs.reverse) (fun b ob q => Heap.get?_push_of_some _ q) (Nat.le_refl _) ⟨by rw [List.length_reverse]; exact hz, its.reverse, r.reverse, ?_⟩, rfl, q _ (I4.hok.fresh (Nat.le_refl _))⟩
    have e : its.toArray.toList.reverse = its.reverse := by simp
    rw [e]
    exact IsTup.new _ _
  · obtain ⟨its, r, pl, hz⟩ := I4.list hq
    have hz' : its.toArray.size ≤ sizeLine := by rw [List.size_toArray, ← r.length]; exact hz
    refine tail_any (T := "list") (ops := [.ref a, .ref s3.heap.objs.size]) pl.isList.typeIs list_getitem_lookup (wpAny_getItem_list_slice pl.isList hsl .none .none pk (by decide) ?_ hz') (by with_unfolding_all rfl)
    rw [PySem.W.krv_pick]
    refine ⟨.ref _, _, I4.laid (t' := s3.toks) (o := .lst xs.reverse) (fun b ob q => Heap.get?_push_of_some _ q) (Nat.le_refl _) ⟨by rw [List.length_reverse]; exact hz, its.reverse, 0, r.reverse, ?_⟩, rfl, q _ (I4.hok.fresh (Nat.le_refl _))⟩
    have e : its.toArray.toList.reverse = its.reverse := by simp
    rw [e]
    exact Heap.get?_push_size _ rfl
def evRev (f : Sx) : Sx := fun ρ S => (f ρ S).bind fun v S1 => match seqOf S1 v.th with
  | some q => if q.1 = true then .ok (.d (.tuple q.2.1.reverse)) S1 else .ok (.f (.lst q.2.1.reverse)) S1
  | none => .no
theorem eRev {c : Nat} {p1 p2 p3 : Pos} (he : PE X a (tE X.K fa)) : PE X (.Subscript a (.Slice none none (some (.UnaryOp .USub (.Constant (.int 1) c p1) p2)) p3) pos) (tE X.K (evRev fa)) :=
  PEi (pe_rev he) fun σ H Q ⟨A, S, ρ, w, env, p⟩ => at_seq (P := Post X.K A H Q) w env p (fun h => h) (fun _ _ h => h) fun v S1 x H1 e1 w1 r1 p1 => by
    split at p1
    case h_2 => exact p1.elim
    rename_i q hq
    obtain ⟨t, ds, g⟩ := q
    obtain ⟨a, xs, rfl, r, sq⟩ := seq_at hq w1 r1
    cases t with
    | true =>
      rw [if_pos rfl] at p1
      exact ⟨a, xs, rfl, .inl ⟨sq, fun q hq => p1.tup e1 w1 hq r.reverse⟩⟩
    | false =>
      rw [if_neg Bool.false_ne_true] at p1
      exact ⟨a, xs, rfl, .inr ⟨sq, fun q hq => p1.lst e1 w1 hq r.reverse⟩⟩
end
end MV
set_option Elab.async false
set_option linter.all false
set_option maxRecDepth 100000
set_option maxHeartbeats 1000000
/-! Readings by mirrors: min of two data, max and min with a default, str, counts, indexes, constants of the module. -/
namespace PySem
open Sem (wp)
section
variable {prog : Program} {w : World} {A : Around} {E : Value → Shared → Prop} {s : Shared}
theorem call_min_twoH {a b : Value} {Q : Value → Shared → Prop}
    (h : wpAny (model prog w) A.in1 (pyIter (.ref s.heap.objs.size)) (fun it s₂ => ∃ I fp wr G n P St H bt, it = .ref I ∧ WalksS prog w A.in1 I fp wr G n P St ∧ St 0 s₂ ∧ (∀ b ∈ fp, b < s₂.heap.objs.size) ∧ 0 < n ∧
      (∀ b o, H.get? b = some o → b ∉ wr) ∧ (∀ b o, H.get? b = some o → s₂.heap.get? b = some o) ∧ CmpIn prog w A.in1 .Lt H P bt ∧ ∀ v s', P (argBest bt (n - 1)) v → Moved wr G s₂ s' → Q v s') E { s with heap := s.heap.push { cls := .type "tuple", data := .seq #[a, b] } }) :
    wpAny (model prog w) A (call (.builtin "min") [a, b]) Q E s := by
  have hname : (toString "min" ++ toString ".loop" : String) = "min.loop" := by decide
  refine call_function_tree F.kind_min F.plain_min F.entry_min (F.args_min2 _ _) ?_
  show wpAny _ A.in1 (Builtin.Builtins.bindParams "min" ["key", "default"] 0 ⟨[], []⟩ >>= _) _ _ s
  refine wpAny_bind (wpAny_of_eq (show Builtin.Builtins.bindParams "min" ["key", "default"] 0 ⟨[], []⟩ = pure [none, none] from rfl) (show wpAny _ A.in1 (newTuple [a, b] >>= _) _ _ s from ?_))
  refine wpAny_bind (wpAny_newObj_type (wpAny_bind (wpAny_mono h (fun it s₂ h₂ => ?_) fun _ _ e => e)))
  obtain ⟨I, fp, wr, G, n, P, St, H, bt, rfl, W, hst, hfp, hn, hw, hkeep, hcmp, hQ⟩ := h₂
  refine wpAny_bind (wpAny_newObj_type ?_)
  have hSf : s₂.heap.objs.size ∉ fp := fun hm => Nat.lt_irrefl _ (hfp _ hm)
  rw [hname]
  refine wpAny_pure ⟨plainId_quiet F.plain_min_loop _, codeAny_min_loop_firstH W H hw bt hcmp s₂.heap.objs.size hSf (fresh_in hkeep) _ hn (fun b o e => Heap.get?_push_of_some _ (hkeep b o e)) (W.frame 0 s₂ _ s₂.toks hst (Nat.le_refl _) fun b _ o e => Heap.get?_push_of_some _ e) (Heap.get?_push_size _ rfl) fun v s' hP hm => hQ v s' hP (Moved.drop_new (tk := s₂.toks) hm (Nat.le_refl _))⟩
theorem min_two_data {a b : Value} {x y : PyData} {as bs : List Addr} {Q : Value → Shared → Prop} (hh : A.handled = none) (ra : Reads s.heap a x as) (rb : Reads s.heap b y bs) (al : W.AlikeAll [x, y]) (hu : A.units + 1 + PyData.depthAll [x, y] < cLine)
    (h : ∀ h' tk, (∀ b o, s.heap.get? b = some o → h'.get? b = some o) → Q (if W.dataLt y x = true then b else a) { s with heap := h', toks := tk }) : wpAny (model prog w) A (call (.builtin "min") [a, b]) Q E s := by
  have hr : ReadsAll s.heap (#[a, b] : Array Value).toList [x, y] (as ++ (bs ++ [])) := .cons ra (.cons rb .nil)
  have hT : (s.heap.push { cls := .type "tuple", data := .seq #[a, b] }).IsTuple s.heap.objs.size #[a, b] := ⟨_, Heap.get?_push_size _ rfl, rfl, 0, rfl⟩
  have up : ∀ b' o, s.heap.get? b' = some o → (s.heap.push { cls := .type "tuple", data := .seq #[a, b] }).get? b' = some o := fun b' o e => Heap.get?_push_of_some _ e
  refine call_min_twoH (W.iter_tupleW (A := A.in1) (s := { s with heap := s.heap.push { cls := .type "tuple", data := .seq #[a, b] } }) hh hT fun s₂ e W' st hfp hw hk => ?_)
  refine ⟨_, _, _, _, _, _, _, s.heap, (fun i j => W.dataLt ([x, y].getD i .none) ([x, y].getD j .none)), rfl, W', st, hfp, Nat.succ_pos _, fun b' o e => hw b' o (up b' o e), fun b' o e => hk b' o (up b' o e), W.cmpIn_lt (A := A.in1) hr al (by show A.units + 1 + _ < _; exact hu), fun v s' hP m => ?_⟩
  obtain ⟨h', tk, rfl, hk'⟩ := W.moved_old e rfl m
  have hv : v = if W.dataLt y x = true then b else a := by
    have hP : (#[a, b] : Array Value)[argBest (fun i j => W.dataLt ([x, y].getD i .none) ([x, y].getD j .none)) 1]? = some v := hP
    by_cases c : W.dataLt y x = true
    · have e : argBest (fun i j => W.dataLt ([x, y].getD i .none) ([x, y].getD j .none)) 1 = 1 := by simp [argBest, c]
      rw [e] at hP
      rw [if_pos c]
      simpa using hP.symm
    · have e : argBest (fun i j => W.dataLt ([x, y].getD i .none) ([x, y].getD j .none)) 1 = 0 := by simp [argBest, c]
      rw [e] at hP
      rw [if_neg c]
      simpa using hP.symm
  rw [hv]
  exact h h' tk fun b' o e => hk' b' o (up b' o e)
end
end PySem
namespace MV
open PySem PySem.Spec PyProof.Rows L2
section
variable {X : Cx} {K : Frg} {a b : Expr} {fa fb : Sx} {pos : Pos} {A A' A2 : Wd} {H H' H2 : Hp} {S S' : Sto} {Q : VK} {ρ : Envi} {σ : L2.St} {D : Ends}
/-! ### min(x, y) of data -/
def gMin2 : List Val → Sto → Res Val
  | [.d x, .d y], S => if allAlike [x, y] = true then .ok (.d (if PySem.W.dataLt y x = true then y else x)) S else .no
  | _, _ => .no
theorem bMin2 (hc : X.calm = true) (hu : X.A.units + 100 < cLine) : BRul X (.builtin "min") gMin2 := by
  intro pins s σ A S H xs us vs Q I wf rvs rus p
  unfold gMin2 at p
  split at p
  case h_2 => exact p.elim
  rename_i x y
  split at p
  case isFalse => exact p.elim
  rename_i hal
  obtain ⟨al, sh⟩ := allAlike_ok hal
  cases rvs with | cons r1 r2 =>
  cases r2 with | cons r2 r3 =>
  cases r3
  obtain ⟨u, u2, rfl, q1, q2⟩ := vals2 rus
  have hd := shaped_depAll sh
  obtain ⟨as, ra⟩ := Dp.reads I x _ u (Rp.dp _ _ (SeqAt.canLay_of_shaped (sh x (by simp))) r1) q1
  obtain ⟨bs, rb⟩ := Dp.reads I y _ u2 (Rp.dp _ _ (SeqAt.canLay_of_shaped (sh y (by simp))) r2) q2
  refine min_two_data (I.ok.hd hc) ra rb al (by omega) fun h' tk hk => ?_
  by_cases c : PySem.W.dataLt y x = true
  · rw [if_pos c] at p ⊢
    exact ⟨_, H, I.kept (t' := tk) hk, q2, p _ H .refl wf r2⟩
  · rw [if_neg c] at p ⊢
    exact ⟨_, H, I.kept (t' := tk) hk, q1, p _ H .refl wf r1⟩
/-! ### max(x, default=d) -/
def gMaxD (v d : Val) (S : Sto) : Res Val := match seqOf S v with
  | some q => match q.2.1 with
    | [] => match d with
      | .d y => .ok (.d y) S
      | _ => .no
    | ds => maxDat ds S
  | none => .no
def evMaxD (f g : Sx) : Sx := fun ρ S => (f ρ S).bind fun v S1 => (g ρ S1).bind fun d S2 => match d with
  | .d y => gMaxD v.th (.d y) S2
  | _ => .no
theorem cr_maxD (hc : X.calm = true) (hu : X.A.units + 100 < cLine) : CallRK X (.builtin "max") [(Str.ofString "default")] (fun xs zs H Q => ∃ A S x z v d, xs = [x] ∧ zs = [z] ∧ Wf X.K A S H ∧ Rv X.K A H x v ∧ Rv X.K A H z d ∧ Post X.K A H Q (gMaxD v d S)) := by
  intro pins s σ H xs zs us ws Q I rus rws ⟨A, S, x, z, v, d, e1, e2, wf, rv, rd, p⟩
  subst e1 e2
  obtain ⟨u, rfl, ru⟩ := vals1 rus
  obtain ⟨w, rfl, rw⟩ := vals1 rws
  unfold gMaxD at p
  split at p
  case h_2 => exact p.elim
  rename_i q hq
  obtain ⟨t, ds, g⟩ := q
  obtain ⟨a, ys, rfl, h1, h2⟩ := seq_at hq wf rv
  cases ru
  show wpAny (model X.prog X.w) X.A (call (.builtin "max") [.ref a] [(Str.ofString "default", w)]) (EP X pins σ Q) X.xe s
  dsimp only at p
  have key : PySem.W.AlikeAll ds ∧ (∀ d ∈ ds, SeqAt.shaped d = true) := by
    split at p
    · exact ⟨⟨fun x hx => (by cases hx), fun x hx => (by cases hx)⟩, fun x hx => (by cases hx)⟩
    · rename_i hne
      unfold maxDat at p
      split at p
      · split at p
        · rename_i hal; exact allAlike_ok hal
        · exact p.elim
      · exact p.elim
  obtain ⟨al, sh⟩ := key
  have hdp := shaped_depAll sh
  have lay := shaped_layAll sh
  have fin0 : ds = [] → ∀ h' tk, (∀ b o, s.heap.get? b = some o → h'.get? b = some o) → EP X pins σ Q w { s with heap := h', toks := tk } := fun e h' tk hk => by
    subst e
    dsimp only at p
    split at p
    · rename_i y
      exact ⟨z, H, I.kept (t' := tk) hk, rw, p z H .refl wf rd⟩
    · exact p.elim
  have fin : ∀ its, Vals ys its → ∀ (y : PyData) (zs : List PyData) (i : Nat) v h' tk bs, ds = y :: zs → its[i]? = some v → Reads h' v (PySem.W.maxD y zs) bs → (∀ b o, s.heap.get? b = some o → h'.get? b = some o) → EP X pins σ Q v { s with heap := h', toks := tk } := fun its rv y zs i v h' tk bs e hv hr hk => by
    subst e
    dsimp only [maxDat] at p
    split at p
    case isFalse => exact p.elim
    obtain ⟨z, rz, rp⟩ := item_rp I h1 rv sh al (maxD_in y zs) hv hr hk
    exact ⟨z, H, I.kept (t' := tk) hk, rz, p z H .refl wf rp⟩
  cases t with
  | true =>
    obtain ⟨its, rv, ht, hz⟩ := I.tuple (show SqT X.K H a ys from h2)
    obtain ⟨as, rd⟩ := Dp.readsAll I ds ys its (RpL.dp _ _ lay h1) rv
    exact PySem.W.max_tuple_default (I.ok.hd hc) (show s.heap.IsTuple a its.toArray from ht) (by simpa using rd) al (by omega) fin0 fun y zs i v h' tk bs e hv hr hk => fin its rv y zs i v h' tk bs e (by simpa using hv) hr hk
  | false =>
    obtain ⟨its, rv, pl, hz⟩ := I.list (show SqL X.K H a ys from h2)
    obtain ⟨as, rd⟩ := Dp.readsAll I ds ys its (RpL.dp _ _ lay h1) rv
    exact PySem.W.max_list_default (I.ok.hd hc) pl.isList (by simpa using rd) al (by omega) fin0 fun y zs i v h' tk bs e hv hr hk => fin its rv y zs i v h' tk bs e (by simpa using hv) hr hk
theorem eMaxD {p kp : Pos} (hc : X.calm = true) (hu : X.A.units + 100 < cLine) (hg : Gl X "max") (hm : X.mg "max" = none) (ha : PE X a (tE X.K fa)) (hb : PE X b (tE X.K fb))
    (hs : starEach [a] X.env = (false, eval a X.env) :: starEach [] X.env := by rfl)
    (he : backTo pos (starEach [a] X.env) = (false, eval a X.env) :: backTo pos (starEach [] X.env) := by rfl) (hpl : (backTo pos (starEach [a] X.env)).any (·.1) = false := by rfl) :
    PE X (.Call (.Name "max" p) [a] [⟨some "default", b, kp⟩] pos) (tE X.K (evMaxD fa fb)) :=
  PEi (pe_callBK (cr_maxD hc hu) hg hm (by decide +kernel) (pa_cons ha pa_nil hs) (pk_cons hb pk_nil) (by decide) (by decide) he hpl) fun σ H Q ⟨A, S, ρ, w, env, p⟩ =>
  at_seq (P := Post X.K A H Q) w env p (fun h => h) (fun _ _ h => h) fun v S1 x H1 e1 w1 r1 p1 =>
    at_seq (P := Post X.K A H Q) w1 (env.mono e1) p1 (fun h => h) (fun _ _ h => h) fun d S2 z H2 e2 w2 r2 p2 => by
      cases d with
      | d y => exact ⟨A, S2, x, z, v.th, .d y, rfl, rfl, w2, r1.mono e2, r2, p2.shift (e1.trans e2) w2⟩
      | _ => exact p2.elim
end
end MV
set_option Elab.async false
set_option linter.all false
set_option maxRecDepth 100000
set_option maxHeartbeats 1000000
/-! Readings by mirrors: str of things, how often a text is in a list, constants of the module. -/
namespace MV
open PySem PySem.Spec PyProof.Rows L2
section
variable {X : Cx} {K : Frg} {a b : Expr} {fa fb : Sx} {pos : Pos} {A A' A2 : Wd} {H H' H2 : Hp} {S S' : Sto} {Q : VK} {ρ : Envi} {σ : L2.St} {D : Ends}
open Classical in
noncomputable def gStr : List Val → Sto → Res Val
  | [v], S => match v with
    | .d (.str x) => .ok (.d (.str x)) S
    | v => match asD S v with
      | some d => if d.canLay0 = true ∧ d.showable = true ∧ d.shown.length ≤ sizeLine ∧ d.depth ≤ 64 ∧ (∀ x, d ≠ .str x) then .ok (.d (.str d.shown)) S else .no
      | none => .no
  | _, _ => .no
theorem bStr (hu : X.A.units + 100 < cLine) (gd : X.A.guards = some []) : BRul X (.type "str") gStr := by
  intro pins s σ A S H xs us vs Q I wf rvs rus p
  unfold gStr at p
  split at p
  case h_2 => exact p.elim
  rename_i v0 v _
  cases rvs with | cons r1 r2 =>
  cases r2
  obtain ⟨u, rfl, ru⟩ := vals1 rus
  split at p
  · rename_i x
    have r1 : Rp X.K A.V H _ (.str x) := r1
    cases r1
    obtain ⟨t, rfl⟩ := ru
    exact PySem.P.str_of_str ⟨.str x, H, I, ⟨t, rfl⟩, p _ H .refl wf (.str _)⟩
  split at p
  case h_2 => exact p.elim
  rename_i d hd
  split at p
  case isFalse => exact p.elim
  rename_i c
  obtain ⟨c1, c2, c3, c4, c5⟩ := c
  have dp := asD_dp wf r1 hd c1
  obtain ⟨as, rd⟩ := Dp.reads I d _ u dp ru
  have fin : ∀ h' t k, (∀ b o, s.heap.get? b = some o → h'.get? b = some o) → EP X pins σ Q (.str d.shown t) { s with heap := h', toks := k } := fun h' t k kp =>
    ⟨.str d.shown, H, I.kept kp, ⟨t, rfl⟩, p _ H .refl wf (.str _)⟩
  have fin0 : EP X pins σ Q (.str d.shown s.toks) { s with toks := s.toks + 1 } := ⟨.str d.shown, H, I.tok _, ⟨_, rfl⟩, p _ H .refl wf (.str _)⟩
  cases d with
  | none => cases rd; simp only [PyData.shown] at fin0; exact PySem.P.str_of_none fin0
  | bool b => cases rd; simp only [PyData.shown] at fin0; exact PySem.P.str_of_bool fin0
  | int i =>
    cases rd
    simp only [PyData.shown] at fin0
    exact PySem.P.str_of_int (by simpa [PyData.showable] using c2) fin0
  | str x => exact absurd rfl (c5 x)
  | list ds =>
    cases rd
    all_goals exact str_of_reads (by constructor <;> assumption) c2 (fun z => by rw [PyData.hasDict_of_canLay _ c1] at z; cases z) gd (by omega) (fun _ _ h => h) (fun h' t k kp => fin h' t k kp) c3
  | tuple ds =>
    cases rd
    all_goals exact str_of_reads (by constructor <;> assumption) c2 (fun z => by rw [PyData.hasDict_of_canLay _ c1] at z; cases z) gd (by omega) (fun _ _ h => h) (fun h' t k kp => fin h' t k kp) c3
  | dict ps => simp [PyData.canLay0] at c1
/-! ### list.count of texts -/
def strsOf : List PyData → Option (List Str)
  | [] => some []
  | .str i :: r => (strsOf r).map (i :: ·)
  | _ :: _ => none
theorem strsOf_ok : ∀ {ds : List PyData} {ns : List Str}, strsOf ds = some ns → ds = ns.map .str
  | [], _, h => by cases h; rfl
  | .str i :: r, ns, h => by
    unfold strsOf at h
    cases e : strsOf r with
    | none => rw [e] at h; cases h
    | some ms =>
      rw [e] at h
      cases h
      rw [List.map_cons, ← strsOf_ok e]
  | .int _ :: _, _, h => by cases h
  | .none :: _, _, h => by cases h
  | .bool _ :: _, _, h => by cases h
  | .list _ :: _, _, h => by cases h
  | .tuple _ :: _, _, h => by cases h
  | .dict _ :: _, _, h => by cases h
theorem RpL.strs {L : List Addr} : ∀ {xs : List V} {ns : List Str}, RpL K L H xs (ns.map .str) → xs = ns.map V.str
  | _, [], .nil => rfl
  | _, n :: ns, .cons r t => by
    rw [List.map_cons, ← RpL.strs t, show _ = V.str n from Rp.key (k := .inr n) r rfl]
def gCountS (v : Val) (vs : List Val) (S : Sto) : Res Val := match (asR S v).bind strsOf, vs with
  | some ns, [.d (.str k)] => .ok (.d (.int (ns.countP (· == k) : Nat))) S
  | _, _ => .no
def eqks (k : Str) : Value → Bool
  | .str j _ => j == k
  | _ => false
theorem eqks_gives : ∀ {its : List Value} {ns : List Str} {k : Str} {t : Tok}, Vals (ns.map V.str) its → ∀ y ∈ its, MeetsSeq.EqGives y (.str k t) (eqks k y)
  | _, [], _, _, .nil, y, h => by cases h
  | _, n :: ns, k, t, .cons r rs, y, h => by
    rcases List.mem_cons.mp h with rfl | h
    · obtain ⟨u, rfl⟩ := r
      exact eqGives_str n k u t
    · exact eqks_gives rs y h
theorem eqks_count : ∀ {its : List Value} {ns : List Str} {k : Str}, Vals (ns.map V.str) its → its.countP (eqks k) = ns.countP (· == k)
  | _, [], _, .nil => rfl
  | _, n :: ns, k, .cons r rs => by
    obtain ⟨u, rfl⟩ := r
    rw [List.countP_cons, List.countP_cons, eqks_count rs]
    rfl
theorem mCountS : MRul X "list.count" gCountS := by
  intro pins s σ A S H x xs u us v vs Q I wf rv rvs ru rus p
  unfold gCountS at p
  split at p
  case h_2 => exact p.elim
  rename_i ns k hns
  cases rvs with | cons r1 r2 =>
  cases r2
  have r1 : Rp X.K A.V H _ (.str k) := r1
  cases r1
  obtain ⟨y, rfl, ry⟩ := vals1 rus
  obtain ⟨t, rfl⟩ := ry
  cases hl : asR S v with
  | none => rw [hl] at hns; cases hns
  | some ds =>
    rw [hl] at hns
    obtain ⟨a, ys, rfl, h1, h2⟩ := asR_ok wf rv hl
    cases ru
    have ed := strsOf_ok (show strsOf ds = some ns from hns)
    subst ed
    have ey := RpL.strs h2
    subst ey
    obtain ⟨its, rvl, ⟨⟨cls, dd, data, sl⟩, n, ho, hc, hdn, hd⟩, hlen⟩ := I.list h1
    simp only at hc hd
    subst hc hd
    refine call_meets PySem.F.slot_list_count ⟨_, ho, rfl⟩ PySem.F.entry_list_count (PySem.F.args_list_count_2 _ _) (SeqAt.list_countAt a its.toArray n dd sl (.str k t) (eqks k)) ⟨ho, fun y hy => (eqks_gives rvl y (by simpa using hy)).at _ _, ?_⟩
    refine ⟨.int (ns.countP (· == k) : Nat), H, I.tok _, ⟨s.toks, ?_⟩, p _ H .refl wf (.int _)⟩
    show Value.int ((its.toArray.toList.countP (eqks k) : Nat) : Int) s.toks = Value.int ((ns.countP (· == k) : Nat) : Int) s.toks
    rw [show its.toArray.toList = its from rfl, eqks_count rvl]
/-! ### is True, is not True -/
def gIsB : Val → Val → Sto → Res Val
  | .d (.bool a), .d (.bool b), S => .ok (.d (.bool (a == b))) S
  | _, _, _ => .no
def gNotB : Val → Val → Sto → Res Val
  | .d (.bool a), .d (.bool b), S => .ok (.d (.bool (!(a == b)))) S
  | _, _, _ => .no
theorem oIsB : ORul X (compareOp .Is) gIsB := by
  intro pins s σ A S H x y u u' v w Q I wf rv rw ru ru' p
  unfold gIsB at p
  split at p
  · rename_i a b
    have e1 := Rp.bl_inv (show Rp X.K A.V H x (.bool a) from rv)
    have e2 := Rp.bl_inv (show Rp X.K A.V H y (.bool b) from rw)
    subst e1 e2
    cases ru
    cases ru'
    show wpAny _ _ ((isSame (Value.bool a) (Value.bool b)) >>= fun z => pure (Value.bool z)) _ _ s
    exact wpAny_bind (wpAny_isSame_plain rfl (wpAny_pure ⟨.bl (a == b), H, I, (by cases a <;> cases b <;> rfl), p _ H .refl wf (.bl _)⟩))
  · exact p.elim
theorem oNotB : ORul X (compareOp .IsNot) gNotB := by
  intro pins s σ A S H x y u u' v w Q I wf rv rw ru ru' p
  unfold gNotB at p
  split at p
  · rename_i a b
    have e1 := Rp.bl_inv (show Rp X.K A.V H x (.bool a) from rv)
    have e2 := Rp.bl_inv (show Rp X.K A.V H y (.bool b) from rw)
    subst e1 e2
    cases ru
    cases ru'
    show wpAny _ _ ((isSame (Value.bool a) (Value.bool b)) >>= fun z => pure (Value.bool (!z))) _ _ s
    exact wpAny_bind (wpAny_isSame_plain rfl (wpAny_pure ⟨.bl (!(a == b)), H, I, (by cases a <;> cases b <;> rfl), p _ H .refl wf (.bl _)⟩))
  · exact p.elim
/-! ### constants of the module -/
theorem eCstI {x : Str} {i : Int} {pos : Pos} (hg : Gl X x) (hm : ∃ t, X.mg x = some (.int i t)) (hd : (x == ("__debug__" : Str)) = false := by decide) : PE X (.Name x pos) (tE X.K (evK (.int i))) := by
  obtain ⟨t, hm⟩ := hm
  exact eC (v := .int i) (pe_glob hg hm ⟨t, rfl⟩ hd) fun _ _ => .int i
end
end MV
set_option Elab.async false
set_option linter.all false
set_option maxRecDepth 100000
/-! Readings by mirrors: constants of the module that are tuples of texts. -/
namespace MV
open PySem PySem.Spec PyProof.Rows L2
section
variable {X : Cx} {K : Frg}
theorem rpL_str {A : List Addr} {H : Hp} : ∀ xs : List Str, RpL K A H (xs.map V.str) (xs.map PyData.str)
  | [] => .nil
  | x :: xs => .cons (.str x) (rpL_str xs)
theorem eCstT {x : Str} (xs : List Str) {pos : Pos} (hg : Gl X x) (hm : ∃ a, X.mg x = some (.ref a) ∧ KTup X.K a (xs.map V.str)) (hd : (x == ("__debug__" : Str)) = false := by decide) : PE X (.Name x pos) (tE X.K (evK (.tuple (xs.map PyData.str)))) := by
  obtain ⟨a, hm, ht⟩ := hm
  exact eC (v := .ref a) (pe_glob hg hm rfl hd) fun _ _ => .tup (.inr ht) (rpL_str xs)
theorem ktup_two {a : Addr} {od : Option Addr} {x y : Str} {t u : Tok} {n : Nat} {sl : Array (Option Value)} (h : K.lookup a = some ⟨.type "tuple", od, .seq #[.str x t, .str y u] n, sl⟩) : KTup K a [.str x, .str y] :=
  .inr ⟨_, _, n, h, rfl, rfl, (by decide : (2 : Nat) ≤ sizeLine), .cons ⟨t, rfl⟩ (.cons ⟨u, rfl⟩ .nil)⟩
end
end MV
set_option Elab.async false
set_option linter.all false
set_option maxRecDepth 100000
/-! Readings by mirrors: dicts of which an item may be a cell (written out, read, stored into). -/
namespace MV
open PySem PySem.Spec PyProof.Rows L2
section
variable {X : Cx} {K : Frg} {a b : Expr} {fa fb : Sx} {pos : Pos} {A A' A2 W W' : Wd} {H H' H2 : Hp} {S S' : Sto} {Q : VK} {ρ : Envi} {σ : L2.St} {D : Ends}
def Itm.val : Itm → Val
  | .d x => .d x
  | .c n => .c n
def rLook (ps : List (Key × Itm)) (k : Key) : Option Itm := (ps.find? fun p => decide (p.1 = k)).map (·.2)
def rPut (ps : List (Key × Itm)) (k : Key) (i : Itm) : List (Key × Itm) :=
  if (rLook ps k).isSome then ps.map fun p => if p.1 = k then (p.1, i) else p else ps ++ [(k, i)]
def rPutAll (ps : List (Key × Itm)) : List (Key × Itm) → List (Key × Itm)
  | [] => ps
  | q :: qs => rPutAll (rPut ps q.1 q.2) qs
abbrev VR (K : Frg) (W : Wd) (H : Hp) : List (Key × V) → List (Key × Itm) → Prop := Paired fun p q => p.1 = q.1 ∧ ItmOk K W H p.2 q.2
theorem ItmOk.kp {v : V} {i : Itm} (e : Kp W.V H W'.V H') (hA : W'.A = W.A) (r : ItmOk K W H v i) : ItmOk K W' H' v i := by
  cases i with
  | d x => exact Rp.mono e r
  | c n => obtain ⟨a, h, rfl⟩ := r; exact ⟨a, by rw [hA]; exact h, rfl⟩
theorem VR.kp {kvs : List (Key × V)} {ps : List (Key × Itm)} (e : Kp W.V H W'.V H') (hA : W'.A = W.A) (r : VR K W H kvs ps) : VR K W' H' kvs ps := Paired.mapP r fun _ _ h => ⟨h.1, h.2.kp e hA⟩
theorem VR.look {k : Key} : ∀ {kvs : List (Key × V)} {ps : List (Key × Itm)}, VR K W H kvs ps → (rLook ps k = none ∧ valV kvs k = none) ∨ ∃ i v, rLook ps k = some i ∧ valV kvs k = some v ∧ ItmOk K W H v i
  | _, _, .nil => .inl ⟨rfl, rfl⟩
  | p :: kvs, q :: ps, .cons h t => by
    by_cases e : p.1 = k
    · exact .inr ⟨q.2, p.2, by simp [rLook, ← h.1, e], valV_pos e, h.2⟩
    · have e' : ¬ q.1 = k := fun z => e (h.1.trans z)
      have h1 : rLook (q :: ps) k = rLook ps k := by simp [rLook, e']
      rw [h1, valV_neg e]
      exact VR.look t
theorem VR.repl {k : Key} {v : V} {i : Itm} (ri : ItmOk K W H v i) : ∀ {kvs : List (Key × V)} {ps : List (Key × Itm)}, VR K W H kvs ps →
    VR K W H (kvs.map fun kv => if kv.1 = k then (kv.1, v) else kv) (ps.map fun p => if p.1 = k then (p.1, i) else p)
  | _, _, .nil => .nil
  | p :: kvs, q :: ps, .cons h t => by
    rw [List.map_cons, List.map_cons]
    by_cases e : p.1 = k
    · rw [if_pos e, if_pos (h.1.symm.trans e)]
      exact .cons ⟨h.1, ri⟩ (VR.repl ri t)
    · rw [if_neg e, if_neg (fun z => e (h.1.trans z))]
      exact .cons h (VR.repl ri t)
theorem VR.put {k : Key} {v : V} {i : Itm} (ri : ItmOk K W H v i) {kvs : List (Key × V)} {ps : List (Key × Itm)} (r : VR K W H kvs ps) : VR K W H (putK kvs k v) (rPut ps k i) := by
  unfold putK rPut
  rw [valV_any]
  rcases r.look (k := k) with ⟨h1, h2⟩ | ⟨d, u, h1, h2, _⟩
  · rw [h1, h2]
    exact Paired.snoc r ⟨rfl, ri⟩
  · rw [h1, h2]
    exact r.repl ri
theorem VR.puts : ∀ {kvs : List (Key × V)} {qs : List (Key × Itm)} {lvs : List (Key × V)} {ps : List (Key × Itm)}, VR K W H kvs qs → VR K W H lvs ps → VR K W H (mergeK lvs kvs) (rPutAll ps qs)
  | _, _, _, _, .nil, r => by simpa [mergeK, rPutAll] using r
  | (k, v) :: kvs, (j, y) :: qs, _, _, .cons ⟨e, q⟩ t, r => by
    have e : k = j := e
    subst e
    exact VR.puts (kvs := kvs) (qs := qs) t (r.put q)
/-! ### d[k] -/
def rIx (S : Sto) (v w : Val) : Option Val := match v with
  | .c n => match S[n]? with
    | some (.rcd ps) => match w with
      | .d y => match kOf y with
        | some k => (rLook ps k).map Itm.val
        | none => none
      | _ => none
    | _ => none
  | _ => none
def gIxR : Val → Val → Sto → Res Val := fun v w S => match rIx S v w with
  | some z => .ok z S
  | none => gIx v w S
theorem xIxR (hu : X.A.units + 1 < cLine) : IxR X (rO X.K gIxR) := by
  intro value slice pins s σ H x y u u' Q I ru ru' ⟨A, S, v, w, wf, rv, rw, p⟩ hs
  unfold gIxR at p
  split at p
  · rename_i z hz
    unfold rIx at hz
    split at hz
    case h_2 => cases hz
    rename_i n
    split at hz
    case h_2 => cases hz
    rename_i ps hps
    split at hz
    case h_2 => cases hz
    rename_i y'
    split at hz
    case h_2 => cases hz
    rename_i k hk
    obtain ⟨a, ha, e1⟩ := rv
    subst e1
    obtain ⟨kvs, g1, r1⟩ := wf.ok n a _ ha hps
    cases ru
    have e2 := Rp.key rw hk
    subst e2
    have r1 : VR X.K A H kvs ps := r1
    rcases r1.look (k := k) with ⟨h1, h2⟩ | ⟨d', zz, h1, h2, h3⟩
    · rw [h1] at hz; cases hz
    · rw [h1] at hz
      cases hz
      have g : DGet H a (kV k) (some zz) := by
        have g := DGet.k (k := k) g1
        rwa [h2] at g
      refine tail_any (dict_typeIs I g) slot_dict_getitem.lookup (d_getItem hu I g ru' fun w' s' I' r' => ⟨zz, H, I', r', ?_⟩) hs
      cases d' with
      | d x => exact p zz H .refl wf h3
      | c m => obtain ⟨b, hb, rfl⟩ := h3; exact p b H .refl wf hb
  · exact xIx hu value slice pins s σ H x y u u' Q I ru ru' ⟨A, S, v, w, wf, rv, rw, p⟩ hs
theorem eIxR (hu : X.A.units + 100 < cLine) (ha : PE X a (tE X.K fa)) (hb : PE X b (tE X.K fb)) (hs : PlainIx b := by exact fun _ _ => rfl) : PE X (.Subscript a b pos) (tE X.K (ev2 gIxR fa fb)) := PEi (pe_ix (xIxR (by omega)) ha hb hs) fun _ _ _ => ev2_ok
/-! ### d[k] = v -/
def gPutR (v i x : Val) (S : Sto) : Option Sto := match v, i, x with
  | .c n, .d z, .d y => match S[n]? with
    | some (.rcd ps) => match kOf z with
      | some k => if ps.length < sizeLine ∧ (Cell.rcd (rPut ps k (.d y))).lt n = true then some (S.set n (.rcd (rPut ps k (.d y)))) else none
      | none => none
    | _ => none
  | _, _, _ => none
def rPR (K : Frg) : V → V → V → Hp → (Hp → Prop) → Prop := fun o i x H Q => ∃ A S v w y S', Wf K A S H ∧ Rv K A H o v ∧ Rv K A H i w ∧ Rv K A H x y ∧ gPutR v w y S = some S' ∧ ∀ H', Ext A H A H' → Wf K A S' H' → Q H'
theorem set_rcd (hu : X.A.units + 1 < cLine) : PSet X (rPR X.K) := by
  intro pins s σ H o i x ov iv xv Q I ro ri rx ⟨A, S, v, w, y, S', wf, rv, rw, ry, hp, q⟩
  unfold gPutR at hp
  split at hp
  case h_2 => cases hp
  rename_i n z y'
  split at hp
  case h_2 => cases hp
  rename_i ps hps
  split at hp
  case h_2 => cases hp
  rename_i k hk
  split at hp
  case isFalse => cases hp
  rename_i hl
  cases hp
  obtain ⟨a, ha, e1⟩ := rv
  subst e1
  have ma : a ∈ A.A := List.mem_of_getElem? ha
  obtain ⟨kvs, h2, h3⟩ := wf.ok n a _ ha hps
  have h3 : VR X.K A H kvs ps := h3
  have e2 := Rp.key rw hk
  subst e2
  cases ro
  have hl' : kvs.length < sizeLine := by rw [Paired.length h3]; exact hl.1
  have ry : ItmOk X.K A H x (.d y') := ry
  exact d_setItem hu I (DPut.k (v := x) h2 hl') ri rx fun s' I' => ⟨_, I', q _ (.upd ma) (wf.upd ha ⟨_, upd_same, (h3.put ry).kp (kp_upd ma) rfl⟩ hl.2)⟩
def sPutQ (fo fi fe : Sx) : Ss := fun ρ S => (fe ρ S).bind fun x S1 => (fo ρ S1).bind fun v S2 => (fi ρ S2).bind fun i S3 => match gPutR v.th i.th x.th S3 with
  | some S4 => .ok (.nx ρ) S4
  | none => .no
theorem sPutQR {o i : Expr} {fo fi : Sx} {p2 : Pos} (hu : X.A.units + 100 < cLine) (ho : PE X o (tE X.K fo)) (hi : PE X i (tE X.K fi)) (he : PE X a (tE X.K fa))
    (hx : ∀ v, assign (.Subscript o i p2) X.env v = (do
      let ov ← holding [v] (eval o X.env)
      let iv ← holding [v, ov] (eval i X.env)
      standAt p2
      holding [v, ov, iv] (setItem ov iv v)
      release [v, ov, iv] []) := by intro _; rfl)
    (hs : swapsWithSole [.Subscript o i p2] a pos.line X.env = pure false := by rfl) (hw : swappedStores [.Subscript o i p2] a X.env = pure none := by rfl)
    (h1 : (assignEach [.Subscript o i p2] X.env).map (·.2) = [assign (.Subscript o i p2) X.env] := by rfl) : PS X (.Assign [.Subscript o i p2] a pos) (tS X.K (sPutQ fo fi fa)) :=
  PSi (ps_asg he (pg_sub ho hi (set_rcd (by omega)) hx) hs hw h1) fun D σ H ⟨A, S, ρ, w, env, p⟩ =>
  at_seq (P := PostS X.K A H D) w env p (fun h => h) (fun _ _ h => h) fun x S1 xv H1 e1 w1 r1 p1 =>
    at_seq (P := PostS X.K A H D) w1 (env.mono e1) p1 (fun h => h) (fun _ _ h => h) fun v S2 ov H2 e2 w2 r2 p2 =>
      at_seq (P := PostS X.K A H D) w2 ((env.mono e1).mono e2) p2 (fun h => h) (fun _ _ h => h) fun i S3 iv H3 e3 w3 r3 p3 => by
        split at p3
        · rename_i S4 h4
          refine ⟨A, S3, v.th, i.th, x.th, S4, w3, r2.mono e3, r3, r1.mono (e2.trans e3), h4, fun H4 e4 w4 => ?_⟩
          have e := ((e1.trans e2).trans e3).trans e4
          exact p3 A σ H4 e w4 (env.mono e)
        · exact p3.elim
/-! ### {k: v, ..} with cells -/
abbrev SR := Envi → Sto → Res (List (Key × Itm))
def PostDR (K : Frg) (A : Wd) (H : Hp) (Q : List (V × V) → Hp → Prop) : Res (List (Key × Itm)) → Prop
  | .ok qs S => ∀ kvs H', Ext A H A H' → Wf K A S H' → VR K A H' kvs qs → Q (kvs.map fun kv => (kV kv.1, kv.2)) H'
  | .exc _ _ => False
  | .no => False
theorem PostDR.seq {β : Type} {P : Res β → Prop} {Q : List (V × V) → Hp → Prop} {r : Res (List (Key × Itm))} {g : List (Key × Itm) → Sto → Res β} (h : P (r.bind g)) (h0 : P .no → False) (h1 : ∀ e S, P (.exc e S) → False)
    (k : ∀ qs S1 kvs H1, Ext A H A H1 → Wf K A S1 H1 → VR K A H1 kvs qs → P (g qs S1) → Q (kvs.map fun kv => (kV kv.1, kv.2)) H1) : PostDR K A H Q r := by
  cases r with
  | ok v S1 => exact fun x H1 e w r => k v S1 x H1 e w r h
  | exc e S => exact (h1 _ _ h).elim
  | no => exact (h0 h).elim
def tDR (K : Frg) (f : SR) : L2.St → Hp → (List (V × V) → Hp → Prop) → Prop := fun σ H Q => At K σ H fun A ρ S => PostDR K A H Q (f ρ S)
def PDR (X : Cx) (pos : Pos) (keys : List (Option Expr)) (values : List Expr) (f : SR) : Prop := ∃ trs, PPs X pos keys values trs ∧ ∀ σ H Q, tDR X.K f σ H Q → tPairs trs σ H Q
def itmOf : Val → Option Itm
  | .d x => some (.d x)
  | .c n => some (.c n)
  | _ => none
def rNil : SR := fun _ S => .ok [] S
def rCons (fk fv : Sx) (g : SR) : SR := fun ρ S => (fk ρ S).bind fun v S1 => (fv ρ S1).bind fun w S2 => (g ρ S2).bind fun r S3 => match v.th, itmOf w.th with
  | .d x, some i => match kOf x with
    | some k => .ok ((k, i) :: r) S3
    | none => .no
  | _, _ => .no
theorem ddRN : PDR X pos [] [] rNil := ⟨[], pps_nil, fun σ H Q ⟨A, S, ρ, w, env, p⟩ => p [] H .refl w .nil⟩
theorem itm_ok {v : Val} {i : Itm} {x : V} (h : itmOf v = some i) (r : Rv K A H x v) : ItmOk K A H x i := by
  cases v <;> cases h <;> exact r
theorem ddRC {k v : Expr} {ks : List (Option Expr)} {vs : List Expr} {fk fv : Sx} {g : SR} (hk : PE X k (tE X.K fk)) (hv : PE X v (tE X.K fv)) (hr : PDR X pos ks vs g) : PDR X pos (some k :: ks) (v :: vs) (rCons fk fv g) := by
  obtain ⟨trs, h1, h2⟩ := hr
  refine ⟨_, pps_cons hk hv h1, fun σ H Q ⟨A, S, ρ, w, env, p⟩ => ?_⟩
  refine at_seq (P := PostDR X.K A H Q) w env p (fun h => h) (fun _ _ h => h) fun x S1 xv H1 e1 w1 r1 p1 => ?_
  refine at_seq (P := PostDR X.K A H Q) w1 (env.mono e1) p1 (fun h => h) (fun _ _ h => h) fun y S2 yv H2 e2 w2 r2 p2 => ?_
  refine h2 _ _ _ ⟨A, S2, ρ, w2, (env.mono e1).mono e2, PostDR.seq (P := PostDR X.K A H Q) p2 (fun h => h) (fun _ _ h => h) fun qs S3 kvs H3 e3 w3 r3 p3 => ?_⟩
  split at p3
  case h_2 => exact p3.elim
  rename_i a i ha hb
  split at p3
  case h_2 => exact p3.elim
  rename_i k' hk'
  rw [ha] at r1
  have r1 : Rp X.K A.V H1 xv a := r1
  have r2 := itm_ok hb r2
  rw [Rp.key r1 hk']
  exact p3 ((k', yv) :: kvs) H3 ((e1.trans e2).trans e3) w3 (.cons ⟨rfl, r2.kp e3.kp rfl⟩ r3)
def evDicR (f : SR) : Sx := fun ρ S => (f ρ S).bind fun qs S1 => if qs.length ≤ 15 ∧ (Cell.rcd (rPutAll [] qs)).lt S1.length = true then .ok (.f (.rcd (rPutAll [] qs))) S1 else .no
theorem eDicR {keys : List (Option Expr)} {values : List Expr} {f : SR} (h : PDR X pos keys values f) (hall : keys.all (·.isSome) = true := by rfl) (hl : keys.length = values.length := by rfl) (h0 : keys ≠ [] := by exact List.cons_ne_nil _ _)
    (h15 : keys.length ≤ 15 := by decide) : PE X (.Dict keys values pos) (tE X.K (evDicR f)) := by
  obtain ⟨trs, h1, h2⟩ := h
  refine PEi (pe_disp h1 hall hl h0 h15) fun σ H Q ⟨A, S, ρ, w, env, p⟩ => fun q hq => ?_
  obtain ⟨wP, kP⟩ := w.protNew (u := .dK []) trivial hq
  refine h2 _ _ _ ⟨A.prot q, S, ρ, wP, env.kx kP, ?_⟩
  dsimp only [evDicR] at p
  show PostDR X.K (A.prot q) _ _ (f ρ S)
  cases hf : f ρ S with
  | no => rw [hf] at p; exact p
  | exc e S1 => rw [hf] at p; exact p
  | ok qs S1 =>
    rw [hf] at p
    have p : Post X.K A H Q (if qs.length ≤ 15 ∧ (Cell.rcd (rPutAll [] qs)).lt S1.length = true then .ok (.f (.rcd (rPutAll [] qs))) S1 else .no) := p
    split at p
    case isFalse => exact p.elim
    rename_i hl15
    intro kvs H2 e2 w2 r2
    have nq : q ∉ (A.prot q).A := (w2.pr q (List.mem_cons_self)).1
    have at2 : H2 q = some (.dK []) := e2.keepP upd_same nq (List.mem_cons_self)
    refine ⟨at2, kvs, rfl, by rw [Paired.length r2]; exact hl15.1, ?_⟩
    obtain ⟨w3, k3⟩ := w2.protUpd (p := q) (u := .dK (mergeK [] kvs)) trivial (List.mem_cons_self)
    have e : Ext A H A (L2.upd H2 q (.dK (mergeK [] kvs))) := ⟨rfl, ⟨[], by simp⟩, fun _ h => .inl h, fun b o hb nb => by
      rw [upd_ne (ne_of_none hb hq)]
      obtain ⟨o', a1, a2, a3⟩ := e2.keep b o (by rw [upd_ne (ne_of_none hb hq)]; exact hb) nb
      exact ⟨o', a1, a2, fun m => a3 (List.mem_cons_of_mem _ m)⟩⟩
    exact p q _ e (w3.protOut (k := .rcd _) ⟨_, upd_same, VR.puts (r2.kp k3.2 rfl) .nil⟩ (fun m => w.off hq (Wd.mem.mpr (.inl m))) hl15.2) hq
end
end MV
set_option Elab.async false
set_option linter.all false
set_option maxRecDepth 100000
/-! Readings by mirrors: dicts whose keys are pairs of numbers. -/
namespace MV
open PySem PySem.Spec PyProof.Rows L2
section
variable {X : Cx} {K : Frg} {a b : Expr} {fa fb : Sx} {pos : Pos} {A A' A2 W W' : Wd} {H H' H2 : Hp} {S S' : Sto} {Q : VK} {ρ : Envi} {σ : L2.St} {D : Ends}
/-- no written tuple of the program is a pair of numbers -/
def pairV : List Value → Bool
  | [.int _ _, .int _ _] => true
  | _ => false
def pairO (o : Obj) : Bool := match o.data with
  | .seq its _ => pairV its.toList
  | _ => false
def noPair (K : Frg) : Bool := K.all fun p => !pairO p.2
theorem look_mem {α : Type} {a : Addr} {o : α} : ∀ {K : List (Addr × α)}, K.lookup a = some o → (a, o) ∈ K
  | (b, u) :: K, h => by
    rw [List.lookup_cons] at h
    split at h
    · rename_i e
      cases h
      rw [eq_of_beq e]
      exact List.mem_cons_self
    · exact List.mem_cons_of_mem _ (look_mem h)
def pOf : PyData → Option (Int × Int)
  | .tuple [.int a, .int b] => some (a, b)
  | _ => none
theorem pOf_eq {d : PyData} {k : Int × Int} (h : pOf d = some k) : d = .tuple [.int k.1, .int k.2] := by
  unfold pOf at h
  split at h
  · cases h; rfl
  · cases h
abbrev tkey (p : Int × Int) : List Key := [.inl p.1, .inl p.2]
theorem tkey_inj {p q : Int × Int} : tkey p = tkey q ↔ p = q := by
  constructor
  · intro h
    simp [tkey] at h
    exact Prod.ext h.1 h.2
  · rintro rfl; rfl
theorem Rp.pair {L : List Addr} {x : V} {k : Int × Int} (np : noPair K = true) (r : Rp K L H x (.tuple [.int k.1, .int k.2])) : ∃ t, x = .ref t ∧ H t = some (.tup ((tkey k).map kV)) ∧ t ∉ L := by
  cases r with
  | tup h t =>
    have e := t.ints (ns := [k.1, k.2])
    subst e
    rcases h with ⟨h | h, n⟩ | h
    · exact ⟨_, rfl, h, n⟩
    · exact h.elim
    · rcases h with (h | ⟨o, h⟩) | ⟨o, its, n, h1, h2, h3, h4, h5⟩
      · cases h
      · cases h
      · exfalso
        have m := List.all_eq_true.mp np _ (look_mem h1)
        have h5 : Vals [V.int k.1, V.int k.2] its.toList := h5
        generalize hl : its.toList = l at h5
        cases h5 with | cons q1 h5 =>
        cases h5 with | cons q2 h5 =>
        cases h5
        obtain ⟨t1, rfl⟩ := q1
        obtain ⟨t2, rfl⟩ := q2
        have m : (!pairO o) = true := m
        unfold pairO at m
        rw [h3] at m
        dsimp only at m
        rw [hl] at m
        cases m
abbrev VT (K : Frg) (L : List Addr) (H : Hp) : List (List Key × V) → List ((Int × Int) × PyData) → Prop := Paired fun p q => p.1 = tkey q.1 ∧ Rp K L H p.2 q.2
def putT (ps : List ((Int × Int) × PyData)) (k : Int × Int) (y : PyData) : List ((Int × Int) × PyData) :=
  if (ps.any fun p => decide (p.1 = k)) = true then ps.map (fun p => if p.1 = k then (p.1, y) else p) else ps ++ [(k, y)]
def putAllT (ps : List ((Int × Int) × PyData)) : List ((Int × Int) × PyData) → List ((Int × Int) × PyData)
  | [] => ps
  | (k, y) :: r => putAllT (putT ps k y) r
theorem VT.any {L : List Addr} {k : Int × Int} : ∀ {kvs : List (List Key × V)} {ps : List ((Int × Int) × PyData)}, VT K L H kvs ps → (kvs.any fun kv => decide (kv.1 = tkey k)) = (ps.any fun p => decide (p.1 = k))
  | _, _, .nil => rfl
  | p :: kvs, q :: ps, .cons h t => by
    rw [List.any_cons, List.any_cons, VT.any t, h.1]
    congr 1
    rw [Bool.eq_iff_iff, decide_eq_true_iff, decide_eq_true_iff]
    exact tkey_inj
theorem VT.repl {L : List Addr} {k : Int × Int} {v : V} {y : PyData} (ry : Rp K L H v y) : ∀ {kvs : List (List Key × V)} {ps : List ((Int × Int) × PyData)}, VT K L H kvs ps →
    VT K L H (kvs.map fun kv => if kv.1 = tkey k then (kv.1, v) else kv) (ps.map fun p => if p.1 = k then (p.1, y) else p)
  | _, _, .nil => .nil
  | p :: kvs, q :: ps, .cons h t => by
    rw [List.map_cons, List.map_cons]
    by_cases e : q.1 = k
    · rw [if_pos e, if_pos (h.1.trans (by rw [e]))]
      exact .cons ⟨h.1, ry⟩ (VT.repl ry t)
    · rw [if_neg e, if_neg (fun z => e (tkey_inj.mp (h.1.symm.trans z)))]
      exact .cons h (VT.repl ry t)
theorem VT.put {L : List Addr} {k : Int × Int} {v : V} {y : PyData} (ry : Rp K L H v y) {kvs : List (List Key × V)} {ps : List ((Int × Int) × PyData)} (r : VT K L H kvs ps) : VT K L H (putK kvs (tkey k) v) (putT ps k y) := by
  unfold putK putT
  rw [r.any]
  by_cases c : (ps.any fun p => decide (p.1 = k)) = true
  · rw [if_pos c, if_pos c]
    exact r.repl ry
  · rw [if_neg c, if_neg c]
    exact Paired.snoc r ⟨rfl, ry⟩
theorem VT.mono {L L' : List Addr} {kvs : List (List Key × V)} {ps : List ((Int × Int) × PyData)} (k : Kp L H L' H') (r : VT K L H kvs ps) : VT K L' H' kvs ps := Paired.mapP r fun _ _ z => ⟨z.1, z.2.mono k⟩
/-! ### d[(a, b)] = v -/
def gPutT (v i x : Val) (S : Sto) : Option Sto := match v, i, x with
  | .c n, .d z, .d y => match pOf z with
    | some k => match S[n]? with
      | some (.dic []) => some (S.set n (.dtp [(k, y)]))
      | some (.dtp ps) => if ps.length < sizeLine then some (S.set n (.dtp (putT ps k y))) else none
      | _ => none
    | none => none
  | _, _, _ => none
def rPT (K : Frg) : V → V → V → Hp → (Hp → Prop) → Prop := fun o i x H Q => ∃ A S v w y S', Wf K A S H ∧ Rv K A H o v ∧ Rv K A H i w ∧ Rv K A H x y ∧ gPutT v w y S = some S' ∧ ∀ H', Ext A H A H' → Wf K A S' H' → Q H'
/-- an empty dict is to be one of pairs -/
theorem as_dT {pins : List (Addr × Obj)} {s : Shared} {d : Addr} (I : Inv X pins σ H s) (h : H d = some (.dK [])) : Inv X pins σ (upd H d (.dT [])) s := by
  obtain ⟨z, lo, vs, kv, o, es, ep, ho, hx, hd, r⟩ := (show ObjOk X.prog X.w H s.heap d (.dK []) from I.hok d _ h)
  cases kv
  have he : es.toList = [] := by
    obtain ⟨_, r2, _⟩ := r
    have := r2.length
    exact List.length_eq_zero_iff.mp (by simpa using this)
  have W := I.write (x := d) (e := d) (o := .dT []) (t' := s.toks) (h' := s.heap) (by rw [h]; exact True.intro) (.inl rfl) (fun b u _ e => e) ⟨o, ho⟩ ⟨Nat.zero_le _, lo, [], .nil, o, es, ep, ho, hx, hd, by rw [he]; rfl, List.nodup_nil⟩
  exact W
theorem set_dtp (hu : X.A.units + 1 < cLine) (np : noPair X.K = true) : PSet X (rPT X.K) := by
  intro pins s σ H o i x ov iv xv Q I ro ri rx ⟨A, S, v, w, y, S', wf, rv, rw, ry, hp, q⟩
  unfold gPutT at hp
  split at hp
  case h_2 => cases hp
  rename_i n z y'
  split at hp
  case h_2 => cases hp
  rename_i k hk
  have ez := pOf_eq hk
  subst ez
  obtain ⟨t, rfl, ht, tL⟩ := Rp.pair np (show Rp X.K A.V H i _ from rw)
  obtain ⟨a, ha, e1⟩ := rv
  subst e1
  cases ro
  have ma : a ∈ A.A := List.mem_of_getElem? ha
  have ry : Rp X.K A.V H x y' := ry
  split at hp
  · rename_i hps
    cases hp
    obtain ⟨kvs, h2, h3⟩ := wf.ok n a _ ha hps
    cases h3
    have I2 := as_dT I h2
    have ne : t ≠ a := ne_of ht h2 (fun z => nomatch z)
    refine d_setItem hu I2 (DPut.t (v := x) (k := tkey k) upd_same (by rw [upd_ne ne]; exact ht) (by decide)) ri rx fun s' I' => ⟨_, I', ?_⟩
    rw [upd_upd]
    exact q _ (.upd ma) (wf.upd ha ⟨_, upd_same, .cons ⟨rfl, ry.mono (kp_upd ma)⟩ .nil⟩)
  · rename_i ps hps
    split at hp
    case isFalse => cases hp
    rename_i hl
    cases hp
    obtain ⟨kvs, h2, h3⟩ := wf.ok n a _ ha hps
    have h3 : VT X.K A.V H kvs ps := h3
    have hl' : kvs.length < sizeLine := by rw [Paired.length h3]; exact hl
    exact d_setItem hu I (DPut.t (v := x) (k := tkey k) h2 ht hl') ri rx fun s' I' => ⟨_, I', q _ (.upd ma) (wf.upd ha ⟨_, upd_same, (h3.put ry).mono (kp_upd ma)⟩)⟩
  · cases hp
def sPutT (fo fi fe : Sx) : Ss := fun ρ S => (fe ρ S).bind fun x S1 => (fo ρ S1).bind fun v S2 => (fi ρ S2).bind fun i S3 => match gPutT v.th i.th x.th S3 with
  | some S4 => .ok (.nx ρ) S4
  | none => .no
theorem sPutTR {o i : Expr} {fo fi : Sx} {p2 : Pos} (hu : X.A.units + 100 < cLine) (np : noPair X.K = true) (ho : PE X o (tE X.K fo)) (hi : PE X i (tE X.K fi)) (he : PE X a (tE X.K fa))
    (hx : ∀ v, assign (.Subscript o i p2) X.env v = (do
      let ov ← holding [v] (eval o X.env)
      let iv ← holding [v, ov] (eval i X.env)
      standAt p2
      holding [v, ov, iv] (setItem ov iv v)
      release [v, ov, iv] []) := by intro _; rfl)
    (hs : swapsWithSole [.Subscript o i p2] a pos.line X.env = pure false := by rfl) (hw : swappedStores [.Subscript o i p2] a X.env = pure none := by rfl)
    (h1 : (assignEach [.Subscript o i p2] X.env).map (·.2) = [assign (.Subscript o i p2) X.env] := by rfl) : PS X (.Assign [.Subscript o i p2] a pos) (tS X.K (sPutT fo fi fa)) :=
  PSi (ps_asg he (pg_sub ho hi (set_dtp (by omega) np) hx) hs hw h1) fun D σ H ⟨A, S, ρ, w, env, p⟩ =>
  at_seq (P := PostS X.K A H D) w env p (fun h => h) (fun _ _ h => h) fun x S1 xv H1 e1 w1 r1 p1 =>
    at_seq (P := PostS X.K A H D) w1 (env.mono e1) p1 (fun h => h) (fun _ _ h => h) fun v S2 ov H2 e2 w2 r2 p2 =>
      at_seq (P := PostS X.K A H D) w2 ((env.mono e1).mono e2) p2 (fun h => h) (fun _ _ h => h) fun i S3 iv H3 e3 w3 r3 p3 => by
        split at p3
        · rename_i S4 h4
          refine ⟨A, S3, v.th, i.th, x.th, S4, w3, r2.mono e3, r3, r1.mono (e2.trans e3), h4, fun H4 e4 w4 => ?_⟩
          have e := ((e1.trans e2).trans e3).trans e4
          exact p3 A σ H4 e w4 (env.mono e)
        · exact p3.elim
/-! ### dict of pairs of pairs -/
def pairsT : List PyData → Option (List ((Int × Int) × PyData))
  | [] => some []
  | .tuple [z, y] :: r => match pOf z, pairsT r with
    | some k, some qs => some ((k, y) :: qs)
    | _, _ => none
  | _ => none
def gDictT : List Val → Sto → Res Val
  | [v], S => match (asL S v).bind pairsT with
    | some qs => .ok (.f (.dtp (putAllT [] qs))) S
    | none => .no
  | _, _ => .no
/-- what stands for such a list: the pairs' addresses, their keys', what is told -/
theorem pairsT_ok (np : noPair K = true) {L : List Addr} : ∀ {ds : List PyData} {qs : List ((Int × Int) × PyData)} {ys : List V}, pairsT ds = some qs → RpL K L H ys ds →
    ∃ (ts : List Addr) (kvs : List (List Key × V)) (bs : List Addr), ys = ts.map V.ref ∧ VT K L H kvs qs ∧ Paired (fun t kb => SqT K H t [.ref kb.2, kb.1.2] ∧ H kb.2 = some (.tup (kb.1.1.map kV))) ts (kvs.zip bs) ∧ bs.length = kvs.length
  | [], _, _, h, r => by cases h; cases r; exact ⟨[], [], [], rfl, .nil, .nil, rfl⟩
  | .tuple [z, y] :: ds, qs, _, h, r => by
    unfold pairsT at h
    split at h
    case h_2 => cases h
    rename_i k qs' hk hq
    cases h
    cases r with | cons r1 r2 =>
    obtain ⟨ts, kvs, bs, rfl, e2, e3, e4⟩ := pairsT_ok np hq r2
    have ez := pOf_eq hk
    subst ez
    cases r1 with
    | tup l t =>
      cases t with | cons q1 t =>
      cases t with | cons q2 t =>
      cases t
      obtain ⟨b, rfl, hb, _⟩ := Rp.pair np q1
      exact ⟨_ :: ts, (tkey k, _) :: kvs, b :: bs, rfl, .cons ⟨rfl, q2⟩ e2, .cons ⟨l.seq, hb⟩ e3, by simp [e4]⟩
  | .none :: _, _, _, h, _ => by cases h
  | .bool _ :: _, _, _, h, _ => by cases h
  | .int _ :: _, _, _, h, _ => by cases h
  | .str _ :: _, _, _, h, _ => by cases h
  | .list _ :: _, _, _, h, _ => by cases h
  | .dict _ :: _, _, _, h, _ => by cases h
  | .tuple [] :: _, _, _, h, _ => by cases h
  | .tuple [_] :: _, _, _, h, _ => by cases h
  | .tuple (_ :: _ :: _ :: _) :: _, _, _, h, _ => by cases h
def mergeT (lvs kvs : List (List Key × V)) : List (List Key × V) := kvs.foldl (fun acc kv => putK acc kv.1 kv.2) lvs
theorem mergeT_len : ∀ (kvs lvs : List (List Key × V)), (mergeT lvs kvs).length ≤ lvs.length + kvs.length
  | [], _ => Nat.le_refl _
  | p :: r, lvs => by
    have h1 := mergeT_len r (putK lvs p.1 p.2)
    have h2 := length_putK lvs p.1 p.2
    show (mergeT (putK lvs p.1 p.2) r).length ≤ _
    rw [List.length_cons]
    omega
theorem VT.puts {L : List Addr} : ∀ {kvs : List (List Key × V)} {qs : List ((Int × Int) × PyData)} {lvs : List (List Key × V)} {ps : List ((Int × Int) × PyData)}, VT K L H kvs qs → VT K L H lvs ps → VT K L H (mergeT lvs kvs) (putAllT ps qs)
  | _, _, _, _, .nil, r => r
  | (k, v) :: kvs, (j, y) :: qs, _, _, .cons ⟨e, q⟩ t, r => by
    have e : k = tkey j := e
    subst e
    exact VT.puts (kvs := kvs) (qs := qs) t (r.put q)
theorem KT.puts : ∀ {kvs : List (List Key × V)} {qs : List (List Key × Addr × Value)} {lvs : List (List Key × V)} {xs : List (List Key × Addr × Value)}, KT H kvs qs → KT H lvs xs → KT H (mergeT lvs kvs) (storedAllH xs qs)
  | _, _, _, _, .nil, r => r
  | p :: kvs, q :: qs, _, _, .cons ⟨e, hb, hv⟩ t, r => by
    have z := KT.puts (kvs := kvs) (qs := qs) t (KT.put r p.1 hb hv)
    rw [e] at z
    show KT H (mergeT (putK _ p.1 p.2) kvs) (storedAllH (storedH _ q.1 q.2.1 q.2.2) qs)
    rw [e]
    exact z
theorem raw_T {pins : List (Addr × Obj)} {s : Shared} (I : Inv X pins σ H s) : ∀ {ts : List Addr} {kvs : List (List Key × V)} {bs : List Addr}, Paired (fun t kb => SqT X.K H t [.ref kb.2, kb.1.2] ∧ H kb.2 = some (.tup (kb.1.1.map kV))) ts (kvs.zip bs) → bs.length = kvs.length →
    ∃ (raw : List (Value × Value)) (ps : List (List Key × Addr × Value)), raw.length = ts.length ∧ ps.length = ts.length ∧ KT H kvs ps ∧ ∀ (j : Nat) (k v : Value), raw[j]? = some (k, v) → ∃ (t b : Addr) (kk : List Key), ts[j]? = some t ∧ IsTup s.heap t #[k, v] ∧ k = .ref b ∧ ps[j]? = some (kk, b, v)
  | [], [], _, _, _ => ⟨[], [], rfl, rfl, .nil, fun j k v e => by simp at e⟩
  | [], _ :: _, _ :: _, h, _ => by cases h
  | _ :: _, [], _, h, _ => by cases h
  | [], _ :: _, [], _, hl => by simp at hl
  | _ :: _, _ :: _, [], h, _ => by cases h
  | t :: ts, kv :: kvs, b :: bs, .cons ⟨h1, h2⟩ r, hl => by
    obtain ⟨raw, ps, l1, l2, kt, hp⟩ := raw_T I r (by simpa using hl)
    obtain ⟨its, rv, ht, _⟩ := I.tuple h1
    obtain ⟨u, y, ei, ru, ry⟩ := vals2 rv
    subst ei
    cases ru
    refine ⟨(.ref b, y) :: raw, (kv.1, b, y) :: ps, by simp [l1], by simp [l2], .cons ⟨rfl, h2, ry⟩ kt, fun j k v e => ?_⟩
    cases j with
    | zero =>
      simp at e
      obtain ⟨rfl, rfl⟩ := e
      exact ⟨t, b, kv.1, rfl, ht, rfl, rfl⟩
    | succ j => exact hp j k v (by simpa using e)
theorem kt_key {kvs : List (List Key × V)} {xs : List (List Key × Addr × Value)} (r : KT H kvs xs) : ∀ x ∈ xs, H x.2.1 = some (.tup (x.1.map kV)) := by
  induction r with
  | nil => intro x hx; cases hx
  | @cons p q ps qs h t ih =>
    intro x hx
    rcases List.mem_cons.mp hx with e | hx
    · subst e
      rw [← h.1]
      exact h.2.1
    · exact ih x hx
theorem bDictT (hu : X.A.units + 100 < cLine) (np : noPair X.K = true) (hc : X.calm = true) : BRul X (.type "dict") gDictT := by
  intro pins s σ A S H xs us vs Q I wf rvs rus p
  unfold gDictT at p
  split at p
  case h_2 => exact p.elim
  cases rvs with | cons r1 r2 =>
  cases r2
  split at p
  case h_2 => exact p.elim
  rename_i qs hqs
  obtain ⟨ds, h1, h2⟩ := Option.bind_eq_some_iff.mp hqs
  obtain ⟨a, ys, rfl, h3, h4⟩ := asL_ok wf r1 h1
  obtain ⟨ts, kvs, bs, e1, e2, e3, e4⟩ := pairsT_ok np h2 h4
  subst e1
  obtain ⟨u2, rfl, ru2⟩ := vals1 rus
  cases ru2
  obtain ⟨its, rv2, pl, hz⟩ := I.list (.inl (.inl h3))
  have ei := refs_at rv2
  subst ei
  rw [List.length_map] at hz
  obtain ⟨raw, ps, l1, l2, kt, hpr⟩ := raw_T I e3 e4
  obtain ⟨o, m, ho, hoc, hod, hdat⟩ := pl
  have lk : kvs.length = ts.length := by rw [← l2]; exact Paired.length kt
  have pq : ∀ j k v, raw[j]? = some (k, v) → ts[j]? = some (ts.getD j 0) ∧ IsTup s.heap (ts.getD j 0) #[k, v] ∧ ∃ b kk, k = .ref b ∧ ps[j]? = some (kk, b, v) := fun j k v e => by
    obtain ⟨q, b, kk, e1, e2, e3, e4⟩ := hpr j k v e
    have e5 : ts.getD j 0 = q := by rw [List.getD_eq_getElem?_getD, e1]; rfl
    rw [e5]
    exact ⟨e1, e2, b, kk, e3, e4⟩
  have keys : ∀ x ∈ ps, (tupleKind (mixKind X.prog X.w)).is s.heap x.1 x.2.1 := fun x hx => key_of I.hok (kt_key kt x hx)
  refine call_dict_pairsH (knd := tupleKind (mixKind X.prog X.w)) (ps := ps) (PairArg.list a (ts.map Value.ref).toArray (fun j => ts.getD j 0) raw)
    (I.ok.hd hc) (show X.A.units + 1 + 1 < cLine by omega) ⟨⟨o, m, ho, hoc, hod, hdat⟩, by simp [l1], fun j k v e => ?_⟩ ⟨by omega, fun j k v e => ?_⟩ (fun h' hk x hx => ?_) (by omega) fun h' tk dd' k => ?_
  · obtain ⟨e1, e2, _⟩ := pq j k v e
    exact ⟨by rw [List.getElem?_toArray, List.getElem?_map, e1]; rfl, .inl e2⟩
  · obtain ⟨_, _, b, kk, e1, e2⟩ := pq j k v e
    exact ⟨kk, b, e2, e1⟩
  · exact tupleKind_stays.stays (fun b o vs n e _ => hk b o (Nat.ne_of_lt (Heap.lt_size e)) (fun z => nomatch z) e) (keys x hx)
  · have hm : (s.heap.objs.size == sysModules) = false := beq_eq_false_iff_ne.mpr (Nat.ne_of_gt I.big)
    have hlen : (mergeT [] kvs).length ≤ sizeLine := by
      have := mergeT_len kvs []
      simp at this
      omega
    obtain ⟨q, es, ep, hq, h2, h3, h4, _, h5⟩ := dd'
    have hp : H s.heap.objs.size = none := I.hok.fresh (Nat.le_refl _)
    have kt2 : KT (upd H s.heap.objs.size (.dT (mergeT [] kvs))) (mergeT [] kvs) (storedAllH [] ps) := KT.keeps (KT.puts kt .nil) fun b ys e => by
      rw [upd_ne (ne_of_none e hp)]
      exact e
    refine ⟨.ref s.heap.objs.size, upd H s.heap.objs.size (.dT (mergeT [] kvs)), I.laid (t' := tk) (fun b o e => k b o (fun z => nomatch z) e) (Nat.le_refl _) ⟨hlen, hm, _, kt2, q, es, ep, hq, h2, h3, h4, h5⟩, rfl, ?_⟩
    exact p _ _ (.laid hp) (wf.new hp ⟨_, upd_same, (VT.puts e2 .nil).mono (Ext.push hp wf).kp⟩) hp
/-! ### sorted of such a dict -/
def dtpOf (S : Sto) : Val → Option (List ((Int × Int) × PyData))
  | .c n => match S[n]? with
    | some (.dtp ps) => some ps
    | _ => none
  | _ => none
def pDs (ps : List ((Int × Int) × PyData)) : List PyData := ps.map fun p => .tuple [.int p.1.1, .int p.1.2]
open Classical in
noncomputable def gSortedT : List Val → Sto → Res Val
  | [v], S => match dtpOf S v with
    | some ps => if sortOk (pDs ps) then .ok (.f (.lst (sortD (pDs ps)))) S else .no
    | none => gSortedK [v] S
  | _, _ => .no
theorem dtpOf_ok {x : V} {v : Val} {ps : List ((Int × Int) × PyData)} (w : Wf K A S H) (r : Rv K A H x v) (h : dtpOf S v = some ps) : ∃ a kvs, x = .ref a ∧ a ∈ A.A ∧ H a = some (.dT kvs) ∧ VT K A.V H kvs ps := by
  cases v with
  | c m =>
    have h : (match S[m]? with
      | some (.dtp es) => some es
      | _ => none) = some ps := h
    split at h
    · rename_i es q
      cases h
      obtain ⟨a, h1, rfl⟩ := r
      obtain ⟨xs, h2, h3⟩ := w.ok m a _ h1 q
      exact ⟨a, xs, rfl, List.mem_of_getElem? h1, h2, h3⟩
    · cases h
  | _ => cases h
theorem bSortedT (hu : X.A.units + 100 < cLine) (hc : X.calm = true) : BRul X (.builtin "sorted") gSortedT := by
  intro pins s σ A S H xs us vs Q I wf rvs rus p
  unfold gSortedT at p
  split at p
  case h_2 => exact p.elim
  split at p
  case h_2 => exact bSortedK hc pins s σ A S H xs us _ Q I wf rvs rus p
  rename_i ps hq
  cases rvs with | cons r1 r2 =>
  cases r2
  split at p
  case isFalse => exact p.elim
  rename_i ok
  obtain ⟨al, so, hl, sh⟩ := ok
  obtain ⟨a, kvs, rfl, ma, h1, h2⟩ := dtpOf_ok wf r1 hq
  obtain ⟨u, rfl, ru⟩ := vals1 rus
  cases ru
  obtain ⟨z, hs, ks, pr, o, es, ep, ho, hx, hdt, he, hn⟩ := (show ObjOk X.prog X.w H s.heap a (.dT kvs) from I.hok a _ h1)
  have l1 : es.size = ks.length := size_of_entries he
  have l2 : kvs.length = ks.length := Paired.length pr
  have l3 : kvs.length = ps.length := Paired.length h2
  refine Calls.call_function_entry kind_sorted plain_sorted entry_sorted (args_sorted1 _) ?_
  unfold Builtin.«sorted»
  refine wpAny_bind (m := checkCount "sorted" 1 1 _) (wpAny_pure ?_)
  refine wpAny_bind (PySem.W.kdu_collect (A := X.A.in1) (kdl_raw hs hx hdt) (I.ok.hd hc) ho (by omega) fun h' tk acc hk hacc => ?_)
  have ea : acc.toList = (ks.map fun x => x.2.1).map Value.ref := by
    have hl : acc.toList.length = ks.length := by rw [Array.length_toList, hacc.1]; exact l1
    apply List.ext_getElem?
    intro j
    rw [List.getElem?_map, List.getElem?_map]
    cases hj : acc.toList[j]? with
    | none =>
      have h1 := List.getElem?_eq_none_iff.mp hj
      rw [List.getElem?_eq_none (by omega)]
      rfl
    | some v =>
      obtain ⟨en, hen, hv⟩ := hacc.2 j v (by rw [← Array.getElem?_toList]; exact hj)
      have qe := entry_at he j
      rw [hen] at qe
      cases hb : ks[j]? with
      | none =>
        rw [hb] at qe
        exact nomatch (show some en = none from qe)
      | some b =>
        rw [hb] at qe
        have e2 : en = entryOfKey (tupleKind (mixKind X.prog X.w)) b := Option.some.inj qe
        rw [hv, e2]
        rfl
  have rp : ∀ {kvs : List (List Key × V)} {ks : List (List Key × Addr × Value)} {ps : List ((Int × Int) × PyData)}, KT H kvs ks → VT X.K A.V H kvs ps → RpL X.K A.V H ((ks.map fun x => x.2.1).map V.ref) (pDs ps) := by
    intro kvs ks ps r
    induction r generalizing ps with
    | nil => intro t; cases t; exact .nil
    | @cons p q ps' qs' h t ih =>
      intro v
      cases v with | cons v1 v2 =>
      refine .cons ?_ (ih v2)
      have hb := h.2.1
      rw [v1.1] at hb
      refine Rp.tup (xs := [.int _, .int _]) (.inl ⟨.inl hb, fun m => ?_⟩) (.cons (.int _) (.cons (.int _) .nil))
      obtain ⟨o, e, mu⟩ := wf.there m
      rw [hb] at e
      cases e
      exact mu.elim
  have h1' := rp pr h2
  generalize hits : (ks.map fun x => x.2.1).map Value.ref = its at ea
  generalize hys : (ks.map fun x => x.2.1).map V.ref = ys at h1'
  have rv : Vals ys its := by rw [← hys, ← hits]; exact vals_refs _
  have pl : (pDs ps).length = ps.length := by simp [pDs]
  have hlen : its.length = (pDs ps).length := by rw [← rv.length, h1'.length]
  generalize hds : pDs ps = ds at *
  refine wpAny_bind (wpAny_newList ?_ (by rw [ea, hlen]; exact hl))
  have I1 : Inv X pins σ H { s with heap := h', toks := tk } := I.kept hk
  obtain ⟨as, rd⟩ := Dp.readsAll I1 ds ys its (RpL.dp ds ys (shaped_lay sh) h1') rv
  rw [ea]
  generalize hL : h'.objs.size = L
  have hnone : h'.get? L = none := Heap.get?_none_of_le (by rw [← hL]; exact Nat.le_refl _)
  have hkeep : ∀ b o, h'.get? b = some o → (h'.push { cls := .type "list", data := .seq its.toArray }).get? b = some o := fun b o e => Heap.get?_push_of_some _ e
  have hobj : (h'.push { cls := .type "list", data := .seq its.toArray }).get? L = some (seqObj "list" its.toArray 0) := by rw [← hL]; exact Heap.get?_push_size _ rfl
  refine wpAny_bind (wpAny_holding ?_)
  refine PySem.W.list_sort_data (vs := its) (bs := ds) (enc := id) (R := fun u d => ∃ x, RelV x u ∧ Rp X.K A.V H x d) (n := 0) hobj (rpl_each h1' rv) ?_ (by simpa using al) (by simpa using so) hl ?_ fun out ho eo => ?_
  · have z := each_reads rd
    have z2 : ∀ {us : List Value} {ds : List PyData}, PySem.W.EachIs (fun u d => ∃ as, Reads h' u d as) us ds → PySem.W.EachIs (fun v b => ∃ as, Reads (h'.push { cls := .type "list", data := .seq its.toArray }) v (id b) as ∧ L ∉ as) us ds := fun z => z.mono fun u d ⟨as, r⟩ => ⟨as, PyProof.Rows.Reads.keeps hkeep r, fun m => by
      obtain ⟨o, e⟩ := reads_there r L m
      rw [hnone] at e; cases e⟩
    exact z2 z
  · intro d hd
    have h64 := SeqAt.depth_of_shaped (sh d hd)
    show X.A.in1.units + 1 + d.depth < cLine
    have : X.A.in1.units = X.A.units + 1 := rfl
    omega
  · obtain ⟨zs, r3, r4⟩ := each_rpl eo
    obtain ⟨ep, he⟩ := sortedHeap_at (h := h'.push { cls := .type "list", data := .seq its.toArray }) (vs := its) (n := 0) (out := out.toArray) hobj
    refine wpAny_pure ⟨_, rfl, ?_⟩
    have kk : ∀ b u, h'.get? b = some u → (sortedHeap (h'.push { cls := .type "list", data := .seq its.toArray }) L its out.toArray).get? b = some u := fun b u e' => by
      have hlt := Heap.lt_size e'
      rw [sortedHeap_old (by rw [← hL]; exact Nat.ne_of_lt hlt) (by rw [Heap.size_push]; exact Nat.lt_succ_of_lt hlt)]
      exact hkeep b u e'
    have hp : H L = none := I1.hok.fresh (Nat.le_of_eq hL)
    refine ⟨.ref L, upd H L (.lst zs), I1.laid (t' := tk) kk (Nat.le_of_eq hL) ⟨?_, out, ep, r4, he⟩, rfl, p.fresh wf hp r3⟩
    rw [r4.length, ho]; exact hl
end
end MV
set_option Elab.async false
set_option linter.all false
set_option maxRecDepth 100000
/-! sorted(set(x)), x a list or a tuple, of numbers or of pairs of numbers. -/
namespace MV
open PySem PySem.Spec PyProof.Rows L2
section
variable {P : Program} {w : World} {A : Around} {E : Value → Shared → Prop} {s : Shared}
/-- the set that set() lays at first -/
abbrev set0 (w : World) : Obj := { cls := .type "set", dict := none, data := .set #[] 0 (.fresh 0 0 (!w.params.followText "set-order")) }
def KeptS (s s' : Shared) : Prop := s'.gens = s.gens ∧ s'.os = s.os ∧ s'.drawn = s.drawn ∧ ∀ b o, s.heap.get? b = some o → s'.heap.get? b = some o
/-- how far the run of set(x) comes by itself: to the loop over x -/
def LoopAt (P : Program) (w : World) (A : Around) (s : Shared) (l : Addr) (items : Array Value) (R : Shared → Prop) : Prop :=
  ∀ (I : Addr) (St : Nat → Shared → Prop) (s1 : Shared) (D : Result → Shared → Prop), WalksS P w A.in1.in1.in1 I [I, l] [I] (fun a b => b = a) items.size (fun i v => items[i]? = some v) St →
    St 0 s1 → I = s.heap.objs.size + 1 → s.heap.objs.size ∉ [I, l] → KeptS s s1 → s1.heap.get? s.heap.objs.size = some (set0 w) →
    (∀ s', R s' → KeptS s s' → D (.ok (.ret .none)) s') →
    codeAny (model P w) A.in1.in1 (.builtin "set.update.loop" ⟨[.ref s.heap.objs.size, .ref I], []⟩) D s1
theorem keptS_eq {s s' : Shared} (k : KeptS s s') : s' = { s with heap := s'.heap, toks := s'.toks } := by
  obtain ⟨k1, k2, k3, _⟩ := k
  cases s'
  cases s
  dsimp only at k1 k2 k3
  subst k1 k2 k3
  rfl
set_option maxHeartbeats 3200000 in
theorem set_seq {l : Addr} {items : Array Value} {T : String} (hT : T = "list" ∨ T = "tuple") (hh : A.handled = none) (hl : ∃ o n, s.heap.get? l = some o ∧ o.cls = .type T ∧ o.data = .seq items n) {R : Shared → Prop} (loop : LoopAt P w A s l items R)
    {Q : Value → Shared → Prop} (h : ∀ s', R s' → KeptS s s' → Q (.ref s.heap.objs.size) s') : wpAny (model P w) A (call (.type "set") [.ref l]) Q E s := by
  have made := F.called_set.made
  have subs := F.called_set.sub
  have asks := F.called_set.notType
  have can := F.called_set.canCreate
  have way := F.typeCall_set_1 (.ref l)
  obtain ⟨c, tl, line⟩ := F.called_set.mro
  refine wpAny_call (codeAny_of_tree ?_)
  show wpAny _ _ (callAny (.type "set") _) _ _ _
  refine wpAny_pure ⟨Code.quiet_builtin _ (by decide +kernel), codeAny_builtin F.entry_type_call ?_⟩
  rw [Around.under_plain (weight_type_call_type "set" [.ref l] []) rfl]
  repeat (any_goals (first | assumption | wp_step))
  refine codeAny_mono (code_set_led1 (.ref l) (E := E) (Q₁ := fun u s1 => u = .ref s.heap.objs.size ∧ s1 = { s with heap := s.heap.push (set0 w) }) ⟨rfl, rfl⟩) fun r s1 hr => ?_
  rcases r with e | (_ | _ | _ | u)
  · exact hr
  · exact hr.elim
  · exact hr.elim
  · exact hr.elim
  obtain ⟨rfl, rfl⟩ := hr
  have here : (s.heap.push (set0 w)).get? s.heap.objs.size = some (set0 w) := Heap.get?_push_size _ rfl
  have isS : Shared.TypeIs { s with heap := s.heap.push (set0 w) } (.ref s.heap.objs.size) "set" := ⟨_, here, rfl⟩
  have li := F.called_set.init.lookup
  have bi := F.called_set.init.bind (.ref s.heap.objs.size)
  repeat (any_goals (first | assumption | wp_step))
  refine codeAny_mono (codeAny_call_builtin (R := wants (fun r s' => r = .none ∧ R s' ∧ KeptS s s') E) F.called_set.init.plain F.entry_set_init (check_set_init_1 isS ?_)) fun r s2 hr => ?_
  · obtain ⟨⟨oc, od, odt, osl⟩, n, ho, hc, hd⟩ := hl
    dsimp only at hc hd
    subst hc hd
    have low : l < s.heap.objs.size := Heap.lt_size ho
    have hh3 : A.in1.in1.in1.handled = none := by simp [hh]
    have big : (s.heap.push (set0 w)).objs.size = s.heap.objs.size + 1 := Heap.size_push ..
    have ho' : (s.heap.push (set0 w)).get? l = some ⟨.type T, od, .seq items n, osl⟩ := Heap.get?_push_of_some _ ho
    have off : l ≠ (s.heap.push (set0 w)).objs.size := by rw [big]; exact Nat.ne_of_lt (Nat.lt_succ_of_lt low)
    have out : s.heap.objs.size ∉ [(s.heap.push (set0 w)).objs.size, l] := by
      rw [big]
      simp only [List.mem_cons, List.not_mem_nil, or_false, not_or]
      exact ⟨Nat.ne_of_lt (Nat.lt_succ_self _), Nat.ne_of_gt low⟩
    have keep : ∀ (it : Obj) b o, s.heap.get? b = some o → ((s.heap.push (set0 w)).push it).get? b = some o := fun it b o e => Heap.get?_push_of_some _ (Heap.get?_push_of_some _ e)
    have fin : ∀ {D : Result → Shared → Prop}, (∀ s', R s' → KeptS s s' → D (.ok (.ret .none)) s') → ∀ s', R s' → KeptS s s' → D (.ok (.ret .none)) s' := fun h => h
    rcases hT with rfl | rfl
    · have a1 := F.sub_list_set
      have a2 := F.sub_list_frozenset
      have a3 : (Value.type "list" == Value.type "dict") = false := by decide
      unfold Builtin.«set.__init__» noKeywords Builtin.Frozenset.updateFrom
      generalize hPI : pyIter = PI
      wp_walk
      subst hPI
      refine wpAny_pyIter_list ⟨_, ho', rfl, n, rfl⟩ ?_
      refine wpAny_bind (wpAny_runValue ?_)
      refine loop _ _ _ _ ((Walks.list hh3 _ l off items).toS) ⟨⟨_, Heap.get?_push_size _ rfl, rfl, rfl⟩, ⟨_, Heap.get?_push_of_some _ ho', rfl, n, rfl⟩⟩ big out ⟨rfl, rfl, rfl, keep _⟩ (Heap.get?_push_of_some _ here) fun s' h1 h2 => ?_
      show wpAny _ _ _ _ _ _
      refine wpAny_pure ?_
      show wpAny _ _ (ret Value.none) _ _ _
      exact wpAny_pure ⟨rfl, h1, h2⟩
    · have a1 := F.sub_tuple_set
      have a2 := F.sub_tuple_frozenset
      have a3 : (Value.type "tuple" == Value.type "dict") = false := by decide
      unfold Builtin.«set.__init__» noKeywords Builtin.Frozenset.updateFrom
      generalize hPI : pyIter = PI
      wp_walk
      subst hPI
      refine wpAny_pyIter_tuple ⟨_, ho', rfl, n, rfl⟩ ?_
      refine wpAny_bind (wpAny_runValue ?_)
      refine loop _ _ _ _ ((Walks.tuple hh3 _ l off items).toS) ⟨⟨_, Heap.get?_push_size _ rfl, rfl, rfl⟩, ⟨_, Heap.get?_push_of_some _ ho', rfl, n, rfl⟩⟩ big out ⟨rfl, rfl, rfl, keep _⟩ (Heap.get?_push_of_some _ here) fun s' h1 h2 => ?_
      show wpAny _ _ _ _ _ _
      refine wpAny_pure ?_
      show wpAny _ _ (ret Value.none) _ _ _
      exact wpAny_pure ⟨rfl, h1, h2⟩
  · rcases r with e | (_ | _ | _ | u)
    · exact hr
    · exact hr.elim
    · exact hr.elim
    · exact hr.elim
    obtain ⟨rfl, h1, h2⟩ := hr
    repeat (any_goals (first | assumption | wp_step))
    exact h s2 h1 h2
theorem moved_kept {s1 s' : Shared} {wr : List Addr} {S : Addr} (k : KeptS s s1) (hS : ∀ b ∈ S :: wr, s.heap.get? b = none) (m : Moved (S :: wr) (fun a b => b = a) s1 s') : KeptS s s' := by
  obtain ⟨k1, k2, k3, k4⟩ := k
  refine ⟨(show s'.gens = s1.gens from m.gens).trans k1, m.os.trans k2, m.drawn.trans k3, fun b o e => m.heap b o (fun hb => ?_) (k4 b o e)⟩
  rw [hS b hb] at e
  cases e
theorem loop_ints {l : Addr} {items : Array Value} (ns : List Int) (hi : IntsAre items.toList ns) (hb : ns.length + 1 < scanBound) :
    LoopAt P w A s l items fun s' => ∃ c, SetR w s'.heap s.heap.objs.size (fun j => decide (j ∈ ns)) c ∧ c ≤ ns.length := by
  intro I St s1 D W hSt eI out k here fin
  have hn : items.size = ns.length := by
    have q := IntsAre.length hi
    rw [Array.length_toList] at q
    exact q
  have hval : ∀ (i : Nat) (v : Value), items[i]? = some v → ∃ k t, ns[i]? = some k ∧ v = .int k t := fun i v hv => by
    have hi' : i < ns.length := by rw [← hn]; exact (Array.getElem?_eq_some_iff.mp hv).1
    obtain ⟨t, e⟩ := IntsAre.int_at hi i v (by rw [Array.getElem?_toList]; exact hv)
    refine ⟨ns[i], t, List.getElem?_eq_getElem hi', ?_⟩
    rw [e, List.getD_eq_getElem?_getD, List.getElem?_eq_getElem hi']
    rfl
  refine set_update_ints W s.heap.objs.size out ns hn hb hval (items.size - 0) 0 s1 rfl (Nat.zero_le _) hSt ⟨0, Nat.le_refl 0, setR_new_at here⟩ fun s' c m hc hR => ?_
  refine fin s' ⟨c, hR, by omega⟩ (moved_kept k (fun b hb => ?_) m)
  simp only [List.mem_cons, List.not_mem_nil, or_false] at hb
  rcases hb with e | e
  · rw [e]; exact Heap.get?_none_of_le (Nat.le_refl _)
  · rw [e, eI]; exact Heap.get?_none_of_le (Nat.le_succ _)
theorem loop_tups {l : Addr} {items : Array Value} (ks : List (Addr × List Int)) (hit : items.toList = ks.map fun p => Value.ref p.1) (hk : ∀ p ∈ ks, IsT P w s.heap p.2 p.1) (hfew : ks.length < 64) (hu : A.units + 3 < cLine) :
    LoopAt P w A s l items fun s' => ∃ L es ep t, SetTR P w s'.heap s.heap.objs.size L es ep t ∧ Got ks ks.length L := by
  intro I St s1 D W hSt eI out k here fin
  have hn : items.size = ks.length := by
    have q := congrArg List.length hit
    rw [Array.length_toList, List.length_map] at q
    exact q
  have hval : ∀ (i : Nat) (v : Value), items[i]? = some v → ∃ p, ks[i]? = some p ∧ v = .ref p.1 := fun i v hv => by
    have q : (ks.map fun p => Value.ref p.1)[i]? = some v := by rw [← hit, Array.getElem?_toList]; exact hv
    rw [List.getElem?_map] at q
    obtain ⟨p, h1, h2⟩ := Option.map_eq_some_iff.mp q
    exact ⟨p, h1, h2.symm⟩
  have new : ∀ b, b = s.heap.objs.size ∨ b = I → s.heap.get? b = none := fun b hb => by
    rcases hb with e | e
    · rw [e]; exact Heap.get?_none_of_le (Nat.le_refl _)
    · rw [e, eI]; exact Heap.get?_none_of_le (Nat.le_succ _)
  refine set_update_tups W s.heap.objs.size out ks hn hfew hval s.heap hk (new _ (.inl rfl)) (fun b hb => new b (.inr (List.mem_singleton.mp hb))) hu (items.size - 0) 0 s1 rfl (Nat.zero_le _) hSt k.2.2.2 ⟨[], #[], 0, _, setTR_fresh here, Got.zero ks⟩ fun s' L es ep t m hR g _ => ?_
  rw [hn] at g
  refine fin s' ⟨L, es, ep, t, hR, g⟩ (moved_kept k (fun b hb => ?_) m)
  simp only [List.mem_cons, List.not_mem_nil, or_false] at hb
  exact new b hb
end
section
variable {X : Cx} {K : Frg} {a b : Expr} {fa fb : Sx} {pos : Pos} {A A' A2 : Wd} {H H' H2 : Hp} {S S' : Sto} {Q : VK} {ρ : Envi} {σ : L2.St} {D : Ends}
/-- at l stands a list, a tuple of these -/
def SqB (K : Frg) (H : Hp) (t : Bool) (l : Addr) (xs : List V) : Prop := if t = true then SqT K H l xs else SqL K H l xs
theorem sqB_at {pins : List (Addr × Obj)} {s : Shared} {t : Bool} {l : Addr} {xs : List V} (I : Inv X pins σ H s) (h : SqB X.K H t l xs) : ∃ its : List Value, Vals xs its ∧ ∃ T, (T = "list" ∨ T = "tuple") ∧ ∃ o n, s.heap.get? l = some o ∧ o.cls = .type T ∧ o.data = .seq its.toArray n := by
  unfold SqB at h
  split at h
  · obtain ⟨its, rv, ⟨o, h1, h2, n, h3⟩, _⟩ := I.tuple h
    exact ⟨its, rv, "tuple", .inr rfl, o, n, h1, h2, h3⟩
  · obtain ⟨its, rv, ⟨o, n, h1, h2, _, h3⟩, _⟩ := I.list h
    exact ⟨its, rv, "list", .inl rfl, o, n, h1, h2, h3⟩
theorem cr_setI (hc : X.calm = true) : CallR X (.type "set") (fun xs H Q => ∃ (t : Bool) (l : Addr) (ns : List Int), xs = [.ref l] ∧ SqB X.K H t l (ns.map V.int) ∧ ns.length < 64 ∧ ∀ a c, H a = none → c ≤ ns.length → Q (.ref a) (L2.upd H a (SetO X.w a (fun j => decide (j ∈ ns)) c))) := by
  intro pins s σ H xs us Q I r h
  obtain ⟨t, l, ns, rfl, hl, hf, q⟩ := h
  rw [Vals.ref1 r]
  obtain ⟨its, rv, T, hT, ob⟩ := sqB_at I hl
  refine set_seq (P := X.prog) (w := X.w) hT (I.ok.hd hc) ob (loop_ints ns (by simpa using rv.ints) (by unfold scanBound; omega)) fun s' ⟨c, R, hcn⟩ k => ?_
  have e := keptS_eq k
  rw [e]
  exact ⟨.ref s.heap.objs.size, _, I.laid (t' := s'.toks) k.2.2.2 (Nat.le_refl _) (setO_new R), rfl, q _ c (I.hok.fresh (Nat.le_refl _)) hcn⟩
theorem cr_setT (hc : X.calm = true) (hu : X.A.units + 64 < cLine) : CallR X (.type "set") (fun xs H Q => ∃ (t : Bool) (l : Addr) (ks : List (Addr × List Int)), xs = [V.ref l] ∧ SqB X.K H t l (ks.map fun p => V.ref p.1) ∧ (∀ p ∈ ks, SqT X.K H p.1 (p.2.map V.int)) ∧ ks.length < 64 ∧
    ∀ a L, H a = none → (∀ p ∈ L, p ∈ ks) → (∀ p ∈ ks, p.2 ∈ L.map (·.2)) → Q (.ref a) (L2.upd H a (SetTO X.prog X.w a L))) := by
  intro pins s σ H xs us Q I r h
  obtain ⟨t, l, ks, rfl, hl, hk, hf, q⟩ := h
  rw [Vals.ref1 r]
  obtain ⟨its, rv, T, hT, ob⟩ := sqB_at I hl
  have hn : H s.heap.objs.size = none := I.hok.fresh (Nat.le_refl _)
  refine set_seq (P := X.prog) (w := X.w) hT (I.ok.hd hc) ob (loop_tups ks (by simpa using refs_of_vals rv) (fun p hp => I.isT (hk p hp)) hf (by omega)) fun s' ⟨L, es, ep, t, R, g⟩ k => ?_
  have e := keptS_eq k
  rw [e]
  refine ⟨.ref s.heap.objs.size, L2.upd H s.heap.objs.size (SetTO X.prog X.w s.heap.objs.size L), I.laid (t' := s'.toks) k.2.2.2 (Nat.le_refl _) (setTO_new R.t0), rfl, q _ L hn (fun p hp => ?_) fun p hp => ?_⟩
  · exact List.mem_of_mem_take (g.sub p hp)
  · exact g.all p (by rw [List.take_length]; exact hp)
/-! ### sorted(set(x)) -/
def gSorS (v : Val) (S : Sto) : Res Val := match seqOf S v with
  | some q => match intsOf q.2.1 with
    | some ns => if ns.length < 60 then .ok (.f (.lst (((dd ns).mergeSort fun a b => decide (a ≤ b)).map .int))) S else .no
    | none => match pairsI q.2.1 with
      | some ps => if ps.length < 64 ∧ ps.all (fun p => decide (0 ≤ p.1 ∧ p.1 < 1000 ∧ 0 ≤ p.2 ∧ p.2 < 1000)) = true then .ok (.f (.lst (((dd ps).mergeSort pleb).map fun p => .tuple [.int p.1, .int p.2]))) S else .no
      | none => .no
  | none => .no
def evSorS (f : Sx) : Sx := fun ρ S => (f ρ S).bind fun v S1 => gSorS v.th S1
theorem eSorS {e : Expr} {f : Sx} {p p2 q : Pos} (hc : X.calm = true) (hu : X.A.units + 100 < cLine) (hg : Gl X "sorted") (hm : X.mg "sorted" = none) (hg2 : Gl X "set") (hm2 : X.mg "set" = none) (ha : PE X e (tE X.K f))
    (hs : starEach [e] X.env = (false, eval e X.env) :: starEach [] X.env := by rfl) : PE X (.Call (.Name "sorted" p) [.Call (.Name "set" p2) [e] [] q] [] pos) (tE X.K (evSorS f)) :=
  PEi (pe_callB (CallR.or (cr_sortedSet hc) (cr_sortedT hc)) hg hm (by decide +kernel) (pa_cons (pe_callTy (CallR.or (cr_setI hc) (cr_setT hc (by omega))) hg2 hm2 (by decide +kernel) (pa_cons ha pa_nil hs) (by decide) (by decide) hs) pa_nil)) fun σ H Q ⟨A, S, ρ, w, env, p⟩ =>
  at_seq (P := Post X.K A H Q) w env p (fun h => h) (fun _ _ h => h) fun v S1 x H1 e1 w1 r1 p1 => by
    unfold gSorS at p1
    split at p1
    case h_2 => exact p1.elim
    rename_i q hq
    obtain ⟨a, xs, rfl, r1', sq⟩ := seq_at (t := q.1) (ds := q.2.1) (g := q.2.2) hq w1 r1
    have sq : SqB X.K H1 q.1 a xs := sq
    generalize q.2.1 = ds at r1' p1
    generalize q.1 = t at sq
    split at p1
    · rename_i ns hns
      split at p1
      case isFalse => exact p1.elim
      rename_i hl
      have e := intsOf_ok hns
      subst e
      have e := r1'.ints
      subst e
      refine .inl ⟨t, a, ns, rfl, sq, by omega, fun a2 c ha2 hcn => .inl ⟨a2, _, c, rfl, upd_same, by omega, fun ns' p3 h1 h2 h3 hp3 => ?_⟩⟩
      have e4 : ns' = (dd ns).mergeSort fun a b => decide (a ≤ b) := by
        refine isort_eq ?_ (h1.imp fun h => by omega)
        refine (List.perm_ext_iff_of_nodup (h1.imp fun h => by omega) (nodup_dd ns)).mpr fun k => ?_
        rw [h2, mem_dd, decide_eq_true_iff]
      rw [e4]
      have e5 := Ext.laid (W := A) (o := SetO X.w a2 (fun j => decide (j ∈ ns)) c) ha2
      exact Post.fresh (p1.shift (e1.trans e5) (w1.laid ha2)) (w1.laid ha2) hp3 (RpL.of_ints _)
    · split at p1
      case h_2 => exact p1.elim
      rename_i ps hps
      split at p1
      case isFalse => exact p1.elim
      rename_i hl
      have e := pairsI_ok hps
      subst e
      obtain ⟨ks, e1', e2, e3⟩ := pairs_addr r1'
      subst e1'
      have hlen : ks.length = ps.length := by
        have := congrArg List.length e2
        simpa using this
      have form : ∀ k ∈ ks, ∃ q ∈ ps, k.2 = [q.1, q.2] := fun k hk => by
        have : k.2 ∈ ks.map (·.2) := List.mem_map_of_mem hk
        rw [e2] at this
        obtain ⟨q, h1, h2⟩ := List.mem_map.mp this
        exact ⟨q, h1, h2.symm⟩
      have bd : ∀ q ∈ ps, (0 ≤ q.1 ∧ q.1 < 1000) ∧ 0 ≤ q.2 ∧ q.2 < 1000 := fun q hq => by
        have := List.all_eq_true.mp hl.2 q hq
        simp only [decide_eq_true_eq] at this
        omega
      refine .inr ⟨t, a, ks, rfl, sq, fun k hk => (e3 k hk).2, by omega, fun a2 L ha2 hL1 hL2 => .inr ⟨a2, L, 2, 1000, rfl, upd_same, fun k hk => ?_, by decide, fun k hk => ?_, fun L' p3 h1 h2 h3 h4 hp3 => ?_⟩⟩
      · exact sqT_laid (e3 k (hL1 k hk)).2 ha2
      · obtain ⟨q, hq, e4⟩ := form k (hL1 k hk)
        rw [e4]
        refine ⟨rfl, fun m hm => ?_⟩
        have := bd q hq
        simp at hm
        rcases hm with rfl | rfl
        · exact this.1
        · exact this.2
      · have formL : ∀ k ∈ L', ∃ q ∈ ps, k.2 = [q.1, q.2] := fun k hk => form k (hL1 k (h1.mem_iff.mp hk))
        have e5 : L'.map (fun k => unL k.2) = (dd ps).mergeSort pleb := by
          refine psort_eq ((List.perm_ext_iff_of_nodup ?_ (nodup_dd ps)).mpr fun q => ?_) ?_
          · rw [List.Nodup, List.pairwise_map]
            have h2' : L'.Pairwise fun k k' => k.2 ≠ k'.2 := List.pairwise_map.mp h2
            refine h2'.imp_of_mem fun {k k'} hk hk' ne e => ne ?_
            obtain ⟨q, _, q1⟩ := formL k hk
            obtain ⟨q', _, q2⟩ := formL k' hk'
            rw [q1, q2] at e ⊢
            simp [unL] at e
            rw [e.1, e.2]
          · rw [mem_dd]
            constructor
            · intro hq
              obtain ⟨k, hk, e⟩ := List.mem_map.mp hq
              obtain ⟨q', hq', e'⟩ := formL k hk
              rw [e'] at e
              rw [← e]; exact hq'
            · intro hq
              have m1 : ([q.1, q.2] : List Int) ∈ ks.map (·.2) := by rw [e2]; exact List.mem_map_of_mem (f := fun p : Int × Int => [p.1, p.2]) hq
              obtain ⟨k, hk, ek⟩ := List.mem_map.mp m1
              obtain ⟨k2, hk2, ek2⟩ := List.mem_map.mp (hL2 k hk)
              refine List.mem_map.mpr ⟨k2, h1.mem_iff.mpr hk2, ?_⟩
              have e7 : k2.2 = [q.1, q.2] := ek2.trans ek
              rw [e7]; rfl
          · rw [List.pairwise_map]
            refine h4.imp_of_mem fun {k k'} hk hk' h => ?_
            obtain ⟨q, hq, e⟩ := formL k hk
            obtain ⟨q', hq', e'⟩ := formL k' hk'
            rw [e, e'] at h
            rw [e, e']
            exact code_lex h (bd q hq).1 (bd q hq).2 (bd q' hq').1 (bd q' hq').2
        have e6 : ((dd ps).mergeSort pleb).map (fun p => PyData.tuple [.int p.1, .int p.2]) = L'.map fun k => .tuple (k.2.map .int) := by
          rw [← e5, List.map_map]
          refine List.map_congr_left fun k hk => ?_
          obtain ⟨q, _, e⟩ := formL k hk
          simp only [Function.comp, e]; rfl
        rw [e6] at p1
        have ex := Ext.laid (W := A) (o := SetTO X.prog X.w a2 L) ha2
        refine Post.fresh (p1.shift (e1.trans ex) (w1.laid ha2)) (w1.laid ha2) hp3 ?_
        have all : ∀ M : List (Addr × List Int), (∀ k ∈ M, k ∈ ks) → RpL X.K A.V (L2.upd H1 a2 (SetTO X.prog X.w a2 L)) (M.map fun q => V.ref q.1) (M.map fun k => PyData.tuple (k.2.map .int)) := by
          intro M
          induction M with
          | nil => intro _; exact .nil
          | cons k M ih =>
            intro h
            exact .cons ((e3 k (h k (by simp))).1.mono ex.kp) (ih fun k' hk' => h k' (List.mem_cons_of_mem _ hk'))
        exact all L' fun k hk => hL1 k (h1.mem_iff.mp hk)
end
end MV
set_option Elab.async false
set_option linter.all false
set_option maxRecDepth 100000
/-! Readings by mirrors: lists of lists: made by a comprehension, read, walked; two items changed about. -/
namespace MV
open PySem PySem.Spec PyProof.Rows L2
section
variable {X : Cx} {K : Frg} {a b : Expr} {fa fb : Sx} {pos : Pos} {A A' A2 W W' : Wd} {H H' H2 : Hp} {S S' : Sto} {Q : VK} {ρ : Envi} {σ : L2.St} {D : Ends}
/-- the list of lists that v is -/
def nlsOf (S : Sto) : Val → Option (Nat × List Itm)
  | .c n => match S[n]? with
    | some (.nls is) => some (n, is)
    | _ => none
  | _ => none
theorem nlsOf_ok {x : V} {v : Val} {n : Nat} {is : List Itm} (w : Wf K A S H) (r : Rv K A H x v) (h : nlsOf S v = some (n, is)) : ∃ a xs, A.A[n]? = some a ∧ x = .ref a ∧ H a = some (.lst xs) ∧ Paired (ItmOk K A H) xs is ∧ S[n]? = some (.nls is) := by
  cases v with
  | c m =>
    have h : (match S[m]? with
      | some (.nls es) => some (m, es)
      | _ => none) = some (n, is) := h
    split at h
    · rename_i es q
      cases h
      obtain ⟨a, h1, rfl⟩ := r
      obtain ⟨xs, h2, h3⟩ := w.ok n a _ h1 q
      exact ⟨a, xs, h1, rfl, h2, h3, q⟩
    · cases h
  | _ => cases h
theorem paired_getI {α β : Type} {R : α → β → Prop} : ∀ {xs : List α} {ys : List β} {j : Nat} {y : β}, Paired R xs ys → ys[j]? = some y → ∃ x, xs[j]? = some x ∧ R x y
  | _, _, _, _, .nil, h => by cases h
  | _, _, 0, _, .cons r _, h => by cases h; exact ⟨_, rfl, r⟩
  | _, _, j + 1, _, .cons _ t, h => paired_getI (j := j) t h
theorem paired_getX {α β : Type} {R : α → β → Prop} : ∀ {xs : List α} {ys : List β} {j : Nat} {x : α}, Paired R xs ys → xs[j]? = some x → ∃ y, ys[j]? = some y ∧ R x y
  | _, _, _, _, .nil, h => by cases h
  | _, _, 0, _, .cons r _, h => by cases h; exact ⟨_, rfl, r⟩
  | _, _, j + 1, _, .cons _ t, h => paired_getX (j := j) t h
/-! ### x[i] -/
def gIxN : Val → Val → Sto → Res Val := fun v w S => match nlsOf S v with
  | some q => match w with
    | .d (.int i) => match L2.atI q.2 i with
      | some z => .ok z.val S
      | none => .no
    | _ => .no
  | none => gIx v w S
theorem xIxN (hu : X.A.units + 1 < cLine) : IxR X (rO X.K gIxN) := by
  intro value slice pins s σ H x y u u' Q I ru ru' ⟨A, S, v, w, wf, rv, rw, p⟩ hs
  unfold gIxN at p
  split at p
  case h_2 => exact xIx hu value slice pins s σ H x y u u' Q I ru ru' ⟨A, S, v, w, wf, rv, rw, p⟩ hs
  rename_i q hq
  split at p
  case h_2 => exact p.elim
  rename_i i
  split at p
  case h_2 => exact p.elim
  rename_i z hz
  obtain ⟨a, xs, ha, e1, h1, h2, _⟩ := nlsOf_ok (n := q.1) (is := q.2) wf rv hq
  have key : ∃ zz, L2.atI xs i = some zz ∧ ItmOk X.K A H zz z := by
    unfold L2.atI at hz ⊢
    rw [Paired.length h2]
    cases e : ixN q.2.length i with
    | none => rw [e] at hz; cases hz
    | some j =>
      rw [e] at hz
      exact paired_getI h2 hz
  obtain ⟨zz, hzz, ok⟩ := key
  refine ix_list value slice pins s σ H x y u u' Q I ru ru' ⟨a, xs, _, zz, e1, Rp.int_inv rw, .inl (.inl h1), hzz, ?_⟩ hs
  cases z with
  | d x => exact p zz H .refl wf ok
  | c m => obtain ⟨b, hb, rfl⟩ := ok; exact p b H .refl wf hb
theorem eIxN (hu : X.A.units + 100 < cLine) (ha : PE X a (tE X.K fa)) (hb : PE X b (tE X.K fb)) (hs : PlainIx b := by exact fun _ _ => rfl) : PE X (.Subscript a b pos) (tE X.K (ev2 gIxN fa fb)) := PEi (pe_ix (xIxN (by omega)) ha hb hs) fun _ _ _ => ev2_ok
/-! ### two readings of one expression -/
def notV (i : Nat) (k : Int) : Envi → Bool := fun ρ => match ρ[i]? with
  | some (some (.d (.int j))) => j != k
  | _ => true
def evIf2 (c : Envi → Bool) (f g : Sx) : Sx := fun ρ S => if c ρ = true then f ρ S else g ρ S
theorem tE_if2 {c : Envi → Bool} {f g : Sx} (h : tE K (evIf2 c f g) σ H Q) : tE K f σ H Q ∨ tE K g σ H Q := by
  obtain ⟨A, S, ρ, w, env, p⟩ := h
  unfold evIf2 at p
  split at p
  · exact .inl ⟨A, S, ρ, w, env, p⟩
  · exact .inr ⟨A, S, ρ, w, env, p⟩
/-! ### a list of new lists -/
open Classical in
noncomputable def gGo (bd : Bnd) (e : Sx) (ρ : Envi) (base : Sto) : List PyData → List Cell → Option (List Cell)
  | [], acc => some acc
  | x :: xs, acc => match bd.go x ρ with
    | some ρ1 => match e ρ1 (base ++ acc) with
      | .ok (.f (.lst l)) S2 => if S2 = base ++ acc then gGo bd e ρ base xs (acc ++ [.lst l]) else none
      | _ => none
    | none => none
def nlsC (n k : Nat) : Cell := .nls ((List.range k).map fun j => .c (n + j))
noncomputable def evCompG (src : SI) (bd : Bnd) (e : Sx) (own : List Nat) : Sx := fun ρ S => (src ρ S).bind fun s S1 => match s.g with
  | [] => if s.items.length ≤ sizeLine then match gGo bd e (wipeE ρ own) S1 s.items [] with
      | some acc => .ok (.g (acc ++ [nlsC S1.length acc.length]) acc.length) S1
      | none => .no
    else .no
  | _ => .no
theorem prot_pushs {as : List Addr} {D : Addr} : (A.prot D).pushs as = (A.pushs as).prot D := rfl
theorem pushs_push {as : List Addr} {a : Addr} : (A.pushs as).push a = A.pushs (as ++ [a]) := by
  unfold Wd.pushs Wd.push
  rw [List.append_assoc]
theorem nls_ok {W : Wd} {n : Nat} : ∀ (as : List Addr), (∀ (j : Nat) (a : Addr), as[j]? = some a → W.A[n + j]? = some a) → Paired (ItmOk K W H) (as.map V.ref) ((List.range as.length).map fun j => .c (n + j)) := by
  have key : ∀ (as : List Addr) (k : Nat), (∀ (j : Nat) (a : Addr), as[j]? = some a → W.A[n + (k + j)]? = some a) → Paired (ItmOk K W H) (as.map V.ref) ((List.range as.length).map fun j => .c (n + (k + j))) := by
    intro as
    induction as with
    | nil => intro k h; exact .nil
    | cons a as ih =>
      intro k h
      rw [List.length_cons, List.range_succ_eq_map, List.map_cons, List.map_cons, List.map_map]
      refine .cons ⟨a, h 0 a rfl, rfl⟩ ?_
      have z := ih (k + 1) fun j b hb => by
        have := h (j + 1) b hb
        rwa [show k + (j + 1) = k + 1 + j by omega] at this
      have e : ((fun j => Itm.c (n + (k + j))) ∘ Nat.succ) = fun j => Itm.c (n + (k + 1 + j)) := by
        funext j
        show Itm.c (n + (k + (j + 1))) = _
        rw [show k + (j + 1) = k + 1 + j by omega]
      rw [e]
      exact z
  intro as h
  have z := key as 0 fun j a ha => by rw [Nat.zero_add]; exact h j a ha
  simpa using z
theorem comp_okG {src : SI} {bd : Bnd} {e : Sx} {own : List Nat} (hsub : ∀ j ∈ bd.sl, j ∈ own) (h : tE K (evCompG src bd e own) σ H Q) : tLc (tI K src) (tG K bd) (tB K bYes) (tE K e) own σ H Q := by
  obtain ⟨A, S, ρ, w, env, p⟩ := h
  refine ⟨A, S, ρ, w, env, PostI.seq (P := Post K A H Q) p (fun h => h) (fun _ _ h => h) fun s S1 J B H1 e1 w1 sw b1 p1 => ?_⟩
  split at p1
  case h_2 => exact p1.elim
  rename_i hg
  split at p1
  case isFalse => exact p1.elim
  rename_i hlen
  split at p1
  case h_2 => exact p1.elim
  rename_i fin hfin
  have gk : ∀ S, GOk S s := fun S p hp => by rw [hg] at hp; cases hp
  intro D hD
  have hDP : D ∉ A.P := fun m => w1.off hD (Wd.mem.mpr (.inl m))
  obtain ⟨wD, kD⟩ := w1.protNew (u := .lst []) trivial hD
  have envD := ((env.mono e1).wipe own).kx kD
  refine ⟨fun i m H' => i + m = s.items.length ∧ ∃ (acc : List Cell) (as : List Addr), acc.length ≤ i ∧ as.length = acc.length ∧ Wf K ((A.prot D).pushs as) (S1 ++ acc) H' ∧ (∀ b o, H1 b = some o → b ∉ A.A → ∃ o', H' b = some o' ∧ Fz o o' ∧ (b ∈ A.P → o' = o)) ∧ (∀ b ∈ as, H1 b = none) ∧ H' D = some (.lst (as.map V.ref)) ∧
      B ((A.prot D).pushs as) H' ∧ REnv K ((A.prot D).pushs as) H' (wipeE ρ own) (wipe σ own) ∧ gGo bd e (wipeE ρ own) S1 (s.items.drop i) acc = some fin,
    ⟨s.items.length, by simp, [], [], Nat.le_refl _, rfl, ?_, ?_, by simp, upd_same, ?_, ?_, hfin⟩, ?_⟩
  · have : (A.prot D).pushs [] = A.prot D := by unfold Wd.pushs; rw [List.append_nil]
    rw [this, List.append_nil]
    exact wD
  · intro b o hb nb
    rw [upd_ne (ne_of_none hb hD)]
    exact ⟨o, hb, .inl rfl, fun _ => rfl⟩
  · have : (A.prot D).pushs [] = A.prot D := by unfold Wd.pushs; rw [List.append_nil]
    rw [this]
    exact sw.mono _ _ _ _ kD b1
  · have : (A.prot D).pushs [] = A.prot D := by unfold Wd.pushs; rw [List.append_nil]
    rw [this]
    exact envD
  rintro i m H' ⟨him, acc, as, hacc, hal, w, keep, fresh, hx, b, env, go⟩
  have nDA : D ∉ ((A.prot D).pushs as).A := (w.pr D (List.mem_cons_self)).1
  by_cases hi : i < s.items.length
  · rw [List.drop_eq_getElem_cons hi] at go
    refine .inr ⟨sw.goes i _ _ H' hi w b (gk _), fun H' => ∃ (acc : List Cell) (as : List Addr), acc.length ≤ i + 1 ∧ as.length = acc.length ∧ Wf K ((A.prot D).pushs as) (S1 ++ acc) H' ∧ (∀ b o, H1 b = some o → b ∉ A.A → ∃ o', H' b = some o' ∧ Fz o o' ∧ (b ∈ A.P → o' = o)) ∧ (∀ b ∈ as, H1 b = none) ∧ H' D = some (.lst (as.map V.ref)) ∧
      B ((A.prot D).pushs as) H' ∧ REnv K ((A.prot D).pushs as) H' (wipeE ρ own) (wipe σ own) ∧ gGo bd e (wipeE ρ own) S1 (s.items.drop (i + 1)) acc = some fin, fun H' h => ⟨m - 1, by omega, by omega, h⟩, fun x H'' y => ?_⟩
    obtain ⟨d, hd, e2, w2, r2⟩ := sw.yields i _ _ H' x H'' hi w b (gk _) y
    rw [List.getElem?_eq_getElem hi] at hd
    cases hd
    unfold gGo at go
    split at go
    case h_2 => cases go
    rename_i ρ1 hρ
    refine ⟨(A.prot D).pushs as, wipeE ρ own, _, ρ1, env.mono e2, r2, hρ, fun σ2 hl hj env2 => ⟨wipe_back hl fun j hn => hj j fun m => hn (hsub j m), (A.prot D).pushs as, S1 ++ acc, ρ1, w2, env2, ?_⟩⟩
    show PostB K _ _ _ (.ok true (S1 ++ acc))
    intro H3 e3 w3
    rw [if_pos rfl]
    refine ⟨(A.prot D).pushs as, S1 ++ acc, ρ1, w3, env2.mono e3, ?_⟩
    split at go
    case h_2 => cases go
    rename_i l S2 he
    split at go
    case isFalse => cases go
    rename_i hS
    subst hS
    rw [he]
    intro c H4 e4 w4 hc
    have e24 := (e2.trans e3).trans e4
    have hx4 := e24.keepL hx nDA
    have eg : Ext ((A.prot D).pushs as) H' (((A.prot D).pushs as).pushs [c]) H4 := e24.grows (K := K) fun b hb => by
      rw [List.mem_singleton.mp hb]
      exact (e2.trans e3).free w3 hc
    have epu : ((A.prot D).pushs as).push c = ((A.prot D).pushs as).pushs [c] := rfl
    have ew : ((A.prot D).pushs as).pushs [c] = (A.prot D).pushs (as ++ [c]) := by
      unfold Wd.pushs
      rw [List.append_assoc]
    rw [epu, ew] at w4
    rw [ew] at eg
    have cf : H' c = none := (e2.trans e3).free w3 hc
    obtain ⟨w5, k5⟩ := w4.protUpd (p := D) (u := .lst (as.map V.ref ++ [.ref c])) trivial (List.mem_cons_self)
    have hD1 : H1 D = none := hD
    have c1 : H1 c = none := by
      cases q : H1 c with
      | none => rfl
      | some o =>
        exfalso
        by_cases mA : c ∈ A.A
        · exact w.offA cf (List.mem_append_left _ mA)
        · obtain ⟨o', h1, _⟩ := keep c o q mA
          rw [h1] at cf
          cases cf
    refine ⟨as.map V.ref, hx4, ?_, acc ++ [.lst l], as ++ [c], by rw [List.length_append, List.length_singleton]; omega, by simp [hal], ?_, fun b o hb nb => ?_, fun b hb => ?_, ?_, sw.mono _ _ _ _ k5 (sw.mono _ _ _ _ eg.kx b), (env.mono eg).kx k5, go⟩
    · rw [List.length_map]
      omega
    · rw [← List.append_assoc]
      exact w5
    · rw [upd_ne (ne_of_none hb hD1)]
      obtain ⟨o1, a1, a2, a3⟩ := keep b o hb nb
      refine (fun h => let ⟨o2, b1, b2, b3⟩ := e24.keep b o1 a1 h; ⟨o2, b1, a2.trans b2, fun m => (b3 (List.mem_cons_of_mem _ m)).trans (a3 m)⟩) fun m => ?_
      rcases List.mem_append.mp m with m | m
      · exact nb m
      · rw [fresh b m] at hb
        cases hb
    · rcases List.mem_append.mp hb with hb | hb
      · exact fresh b hb
      · rw [List.mem_singleton.mp hb]
        exact c1
    · rw [List.map_append]
      exact upd_same
  · have hn : i = s.items.length := by omega
    subst hn
    rw [List.drop_length] at go
    unfold gGo at go
    cases go
    refine .inl ⟨sw.stops _ _ H' w b (gk _), ?_⟩
    have lenA : A.A.length = S1.length := w1.len
    have ex : Ext A H1 A H' := ⟨rfl, ⟨[], by simp⟩, fun _ h => .inl h, keep⟩
    have ok : CellOk K ((A.pushs as).prot D) H' D (nlsC S1.length fin.length) := by
      refine ⟨as.map V.ref, hx, ?_⟩
      rw [← hal]
      refine nls_ok as fun j a ha => ?_
      show (A.A ++ as)[S1.length + j]? = some a
      rw [List.getElem?_append_right (by omega), show S1.length + j - A.A.length = j by omega]
      exact ha
    have lt : (nlsC S1.length fin.length).lt (S1 ++ fin).length = true := by
      show ((List.range fin.length).map fun j => Itm.c (S1.length + j)).all (Itm.lt (S1 ++ fin).length) = true
      rw [List.all_eq_true]
      intro x hx
      obtain ⟨j, hj, rfl⟩ := List.mem_map.mp hx
      have := List.mem_range.mp hj
      simp [Itm.lt]
      omega
    have w6 := Wf.protOut (A := A.pushs as) w ok (show D ∉ A.P from hDP) lt
    have efr : ∀ b ∈ as ++ [D], H b = none := fun b hb => by
      rcases List.mem_append.mp hb with hb | hb
      · exact e1.free w1 (fresh b hb)
      · rw [List.mem_singleton.mp hb]
        exact e1.free w1 hD
    have p1' : Post K A H Q (.ok (.g (fin ++ [nlsC S1.length fin.length]) fin.length) S1) := p1
    refine p1' (as ++ [D]) D H' (e1.trans ex) ?_ efr (by simp [hal]) ?_
    · rw [← pushs_push, ← List.append_assoc]
      exact w6
    · rw [List.getElem?_append_right (by omega), show fin.length - as.length = 0 by omega]
      rfl
/-! ### a comprehension over a list of lists -/
open Classical in
noncomputable def nGo (i : Nat) (e : Sx) (ρ : Envi) (S : Sto) : List Itm → List PyData → Option (List PyData)
  | [], acc => some acc
  | x :: xs, acc => match e (ρ.set i (some x.val)) S with
    | .ok v S2 => if S2 = S then match v.th with
        | .d y => nGo i e ρ S xs (acc ++ [y])
        | _ => none
      else none
    | _ => none
noncomputable def evCompN (f : Sx) (i : Nat) (e : Sx) (own : List Nat) : Sx := fun ρ S => (f ρ S).bind fun v S1 => match nlsOf S1 v.th with
  | some q => if q.2.length ≤ sizeLine then match nGo i e (wipeE ρ own) S1 q.2 [] with
      | some ys => .ok (.f (.lst ys)) S1
      | none => .no
    else .no
  | none => .no
def PostN (K : Frg) (A : Wd) (H : Hp) (R : It → Hp → Prop) : Res Val → Prop
  | .ok v S => ∀ x H1, Ext A H A H1 → Wf K A S H1 → Rv K A H1 x v.th → ∃ a xs, x = .ref a ∧ H1 a = some (.lst xs) ∧ R (Itl K a) H1
  | _ => False
def tNl (K : Frg) (f : Sx) : TI := fun σ H R => At K σ H fun A ρ S => PostN K A H R (f ρ S)
theorem iNl {tg l : Expr} {f : Sx} (hl : PE X l (tE X.K f)) : PI X tg l (tNl X.K f) := ⟨fun pins s σ H R I h => by
  obtain ⟨A, S, ρ, w, env, p⟩ := h
  refine thn (hl.run pins s σ H (fun x H1 => ∃ a xs, x = .ref a ∧ H1 a = some (.lst xs) ∧ R (Itl X.K a) H1) I ⟨A, S, ρ, w, env, ?_⟩) fun v s1 ⟨x, H1, I1, r1, a, xs, ex, h1, q⟩ => ?_
  · show Post X.K A H _ (f ρ S)
    cases hf : f ρ S with
    | no => rw [hf] at p; exact p.elim
    | exc e S1 => rw [hf] at p; exact p.elim
    | ok v S1 =>
      rw [hf] at p
      exact Post.th fun x H1 e w r => p x H1 e w r
  · subst ex
    cases r1
    obtain ⟨its, rv, pl, hz⟩ := I1.list (show SqL X.K H1 a xs from .inl (.inl h1))
    refine wpAny_pyIter_list pl.isList ⟨s1.heap.objs.size, [s1.heap.objs.size], _, _, H1, rfl, ?_, turn_list a _, ⟨_, Heap.get?_push_size _ rfl, rfl, rfl⟩, one_fp I1, q⟩
    exact I1.kept (t' := s1.toks) fun b o e => Heap.get?_push_of_some _ e⟩
theorem itm_val {x : V} {d : Itm} (h : ItmOk K A H x d) : Rv K A H x d.val := by
  cases d with
  | d y => exact h
  | c n => exact h
theorem sql_one {a : Addr} {xs ys : List V} (h : H a = some (.lst xs)) (hK : SqL K H a ys → ys = xs) (q : SqL K H a ys) : ys = xs := hK q
theorem comp_okN {f : Sx} {i : Nat} {e : Sx} {own : List Nat} (hsub : i ∈ own) (h : tE K (evCompN f i e own) σ H Q) : tLc (tNl K f) (gName i) (tB K bYes) (tE K e) own σ H Q := by
  obtain ⟨A, S, ρ, w, env, p⟩ := h
  refine ⟨A, S, ρ, w, env, ?_⟩
  dsimp only [evCompN] at p
  show PostN K A H _ (f ρ S)
  cases hf : f ρ S with
  | no => rw [hf] at p; exact p
  | exc e S1 => rw [hf] at p; exact p
  | ok v S1 =>
  rw [hf] at p
  have p : Post K A H Q (match nlsOf S1 v.th with
    | some q => if q.2.length ≤ sizeLine then match nGo i e (wipeE ρ own) S1 q.2 [] with
        | some ys => .ok (.f (.lst ys)) S1
        | none => .no
      else .no
    | none => .no) := p
  intro x H1 e1 w1 r1
  split at p
  case h_2 => exact p.elim
  rename_i q hq
  obtain ⟨n, is⟩ := q
  dsimp only at p hq
  split at p
  case isFalse => exact p.elim
  rename_i hlen
  split at p
  case h_2 => exact p.elim
  rename_i fin hfin
  obtain ⟨a, ys, ha, rfl, h1, _, hS⟩ := nlsOf_ok w1 r1 hq
  refine ⟨a, ys, rfl, h1, fun D hD => ?_⟩
  have hDP : D ∉ A.P := fun m => w1.off hD (Wd.mem.mpr (.inl m))
  obtain ⟨wD, kD⟩ := w1.protNew (u := .lst []) trivial hD
  have envD := ((env.mono e1).wipe own).kx kD
  have at_ : ∀ {H' : Hp}, Wf K (A.prot D) S1 H' → ∃ zs, H' a = some (.lst zs) ∧ Paired (ItmOk K (A.prot D) H') zs is := fun w => w.ok n a _ ha hS
  refine ⟨fun j m H' => j + m = is.length ∧ ∃ acc xs, acc.length ≤ j ∧ Wf K (A.prot D) S1 H' ∧ Ext A H1 A H' ∧ H' D = some (.lst xs) ∧ RpL K (A.prot D).V H' xs acc ∧ REnv K (A.prot D) H' (wipeE ρ own) (wipe σ own) ∧ nGo i e (wipeE ρ own) S1 (is.drop j) acc = some fin,
    ⟨is.length, by simp, [], [], Nat.le_refl _, wD, .laid hD, upd_same, .nil, envD, hfin⟩, ?_⟩
  rintro j m H' ⟨hjm, acc, xs, hacc, w, ex, hx, rx, env, go⟩
  have nDA : D ∉ (A.prot D).A := (w.pr D (List.mem_cons_self)).1
  have toA : ∀ {H3 H4 : Hp}, Ext (A.prot D) H3 (A.prot D) H4 → Ext A H3 A H4 := fun q => ⟨rfl, ⟨[], by simp⟩, fun _ h => .inl h, fun b o h n => let ⟨o', a1, a2, a3⟩ := q.keep b o h n; ⟨o', a1, a2, fun m => a3 (List.mem_cons_of_mem _ m)⟩⟩
  obtain ⟨zs, hz, pz⟩ := at_ w
  by_cases hj : j < is.length
  · rw [List.drop_eq_getElem_cons hj] at go
    obtain ⟨z0, hz0, _⟩ := paired_getI pz (List.getElem?_eq_getElem hj)
    refine .inr ⟨⟨zs, z0, .inl (.inl hz), hz0⟩, fun H' => ∃ acc xs, acc.length ≤ j + 1 ∧ Wf K (A.prot D) S1 H' ∧ Ext A H1 A H' ∧ H' D = some (.lst xs) ∧ RpL K (A.prot D).V H' xs acc ∧ REnv K (A.prot D) H' (wipeE ρ own) (wipe σ own) ∧ nGo i e (wipeE ρ own) S1 (is.drop (j + 1)) acc = some fin, fun H' h => ⟨m - 1, by omega, by omega, h⟩, fun x H'' y => ?_⟩
    obtain ⟨rfl, y⟩ := y
    have hxz := y zs (.inl (.inl hz))
    obtain ⟨d, hd, okd⟩ := paired_getX pz hxz
    rw [List.getElem?_eq_getElem hj] at hd
    cases hd
    have rv := itm_val okd
    unfold nGo at go
    split at go
    case h_2 => cases go
    rename_i v2 S2 he
    split at go
    case isFalse => cases go
    rename_i hS2
    subst hS2
    split at go
    case h_2 => cases go
    rename_i yd hy
    show _ ∧ _
    refine ⟨wipe_back (by rw [List.length_set]) fun k hk => ?_, A.prot D, S2, (wipeE ρ own).set i (some is[j].val), w, env.set rv, ?_⟩
    · rw [List.getElem?_set_ne (fun z => hk (by rw [← z]; exact hsub))]
    show PostB K _ _ _ (.ok true S2)
    intro H3 e3 w3
    rw [if_pos rfl]
    refine ⟨A.prot D, S2, (wipeE ρ own).set i (some is[j].val), w3, (env.set rv).mono e3, ?_⟩
    show Post K _ _ _ (e ((wipeE ρ own).set i (some is[j].val)) S2)
    rw [he]
    refine Post.th fun y4 H4 e4 w4 r4 => ?_
    rw [hy] at r4
    have e24 := e3.trans e4
    have hx4 := e24.keepL hx nDA
    obtain ⟨w5, k5⟩ := w4.protUpd (p := D) (u := .lst (xs ++ [y4])) trivial (List.mem_cons_self)
    have r4 : Rp K (A.prot D).V H4 y4 yd := r4
    refine ⟨xs, hx4, ?_, acc ++ [yd], xs ++ [y4], by rw [List.length_append, List.length_singleton]; omega, w5, ?_, upd_same, ((rx.mono e24.kp).append (.cons r4 .nil)).mono k5.2, (env.mono e24).kx k5, go⟩
    · rw [rx.length]; omega
    · refine ⟨rfl, ⟨[], by simp⟩, fun _ h => .inl h, fun c o hc nc => ?_⟩
      rw [upd_ne (fun z => by rw [z, hD] at hc; cases hc)]
      exact (ex.trans (toA e24)).keep c o hc nc
  · have hn : j = is.length := by omega
    subst hn
    rw [List.drop_length] at go
    unfold nGo at go
    cases go
    exact .inl ⟨⟨zs, .inl (.inl hz), by rw [Paired.length pz]; exact Nat.le_refl _⟩, p D H' (e1.trans ex) (w.protOut (k := .lst _) ⟨_, hx, rx⟩ hDP) (e1.free w1 hD)⟩
/-! ### the rules -/
section
variable {elt tg iter : Expr} {ifs : List Expr} {scope : Scope} {own : List (Str × Nat)} {src : SI} {bd : Bnd} {t : SB} {e f g : Sx}
theorem pe_if2 {c : Envi → Bool} {ex : Expr} (h1 : PE X ex (tE X.K f)) (h2 : PE X ex (tE X.K g)) : PE X ex (tE X.K (evIf2 c f g)) := ⟨fun pins s σ H Q I h => (tE_if2 h).elim (h1.run pins s σ H Q I) (h2.run pins s σ H Q I)⟩
theorem sCell_if2 {i : Nat} {c : Envi → Bool} {st : Stmt} (h1 : PS X st (tS X.K (sCell i f))) (h2 : PS X st (tS X.K (sCell i g))) : PS X st (tS X.K (sCell i (evIf2 c f g))) := ⟨fun pins s σ H D I h => by
  obtain ⟨A, S, ρ, w, env, p⟩ := h
  unfold sCell evIf2 at p
  split at p
  · exact h1.run pins s σ H D I ⟨A, S, ρ, w, env, p⟩
  · exact h2.run pins s σ H D I ⟨A, S, ρ, w, env, p⟩⟩
theorem eCompG (hc : X.calm = true) (hN : X.N.Nodup) (hi : PI X tg iter (tI X.K src)) (ok : BlkOk X.N X.env.scope scope own) (hsub : ∀ j ∈ bd.sl, j ∈ own.map (·.2))
    (hg : ∀ (s : Shared) (H : Hp) (C : Addr) (cl : List (Str × Addr)) (fp : List Addr), PG (X.blk s H scope (compEnvC scope cl C X.env) fp) tg (tG X.K bd))
    (he : ∀ (s : Shared) (H : Hp) (C : Addr) (cl : List (Str × Addr)) (fp : List Addr), PE (X.blk s H scope (compEnvC scope cl C X.env) fp) elt (tE X.K e)) (hs : ∀ x, foldedSetIterable iter X.env x = pure x := by intro _; rfl) :
    PE X (.ListComp elt [⟨tg, iter, [], 0⟩] scope pos) (tE X.K (evCompG src bd e (own.map (·.2)))) := PEi (pe_lc hc hN hi ok hg (fun _ _ _ _ _ => tsN) he hs) fun σ H Q => comp_okG hsub
theorem sCellLcG {y : Str} {py spos : Pos} (i : Nat) (hc : X.calm = true) (hN : X.N.Nodup) (hy : X.N[i]? = some y) (hyl : X.env.scope.names.lookup y = some .local) (hsw : swapsWith (.ListComp elt [⟨tg, iter, [], 0⟩] scope pos) (some (.Name y py)) spos.line X.env = pure true)
    (hi : PI X tg iter (tI X.K src)) (ok : BlkOk X.N X.env.scope scope own) (hsub : ∀ j ∈ bd.sl, j ∈ own.map (·.2))
    (hg : ∀ (s : Shared) (H : Hp) (C : Addr) (cl : List (Str × Addr)) (fp : List Addr), PG (X.blk s H scope (compEnvC scope cl C X.env) fp) tg (tG X.K bd))
    (he : ∀ (s : Shared) (H : Hp) (C : Addr) (cl : List (Str × Addr)) (fp : List Addr), PE (X.blk s H scope (compEnvC scope cl C X.env) fp) elt (tE X.K e)) (hs : ∀ x, foldedSetIterable iter X.env x = pure x := by intro _; rfl) :
    PS X (.Assign [.Name y py] (.ListComp elt [⟨tg, iter, [], 0⟩] scope pos) spos) (tS X.K (sCell i (evCompG src bd e (own.map (·.2))))) := PSi (ps_setLc hc hN hy hyl hsw hi ok hg (fun _ _ _ _ _ => tsN) he hs) fun D σ H h => comp_okG hsub (cell_ok h)
theorem eCompN {i : Nat} (hc : X.calm = true) (hN : X.N.Nodup) (hi : PE X iter (tE X.K f)) (ok : BlkOk X.N X.env.scope scope own) (hsub : i ∈ own.map (·.2))
    (hg : ∀ (s : Shared) (H : Hp) (C : Addr) (cl : List (Str × Addr)) (fp : List Addr), PG (X.blk s H scope (compEnvC scope cl C X.env) fp) tg (gName i))
    (he : ∀ (s : Shared) (H : Hp) (C : Addr) (cl : List (Str × Addr)) (fp : List Addr), PE (X.blk s H scope (compEnvC scope cl C X.env) fp) elt (tE X.K e)) (hs : ∀ x, foldedSetIterable iter X.env x = pure x := by intro _; rfl) :
    PE X (.ListComp elt [⟨tg, iter, [], 0⟩] scope pos) (tE X.K (evCompN f i e (own.map (·.2)))) := PEi (pe_lc hc hN (iNl hi) ok hg (fun _ _ _ _ _ => tsN) he hs) fun σ H Q => comp_okN hsub
end
/-! ### x[i], x[j] = a, b -/
def sSwp (o1 k1 o2 k2 : Sx) (f : SA) : Ss := fun ρ S => (f ρ S).bind fun vs S1 => match vs with
  | [x1, x2] => (o1 ρ S1).bind fun v1 S2 => (k1 ρ S2).bind fun i1 S3 => match gPut v1.th i1.th x1 S3 with
    | some S4 => (o2 ρ S4).bind fun v2 S5 => (k2 ρ S5).bind fun i2 S6 => match gPut v2.th i2.th x2 S6 with
      | some S7 => .ok (.nx ρ) S7
      | none => .no
    | none => .no
  | _ => .no
theorem sSwpR {e1 e2 i1 i2 a1 a2 : Expr} {o1 k1 o2 k2 : Sx} {f : SA} {p1 p2 pt pt2 : Pos} {kt kt2} (hu : X.A.units + 100 < cLine) (hc : X.calm = true) (ha : PA X [a1, a2] (tAr X.K f)) (ho1 : PE X e1 (tE X.K o1)) (hk1 : PE X i1 (tE X.K k1)) (ho2 : PE X e2 (tE X.K o2)) (hk2 : PE X i2 (tE X.K k2))
    (hx1 : ∀ v, assign (.Subscript e1 i1 p1) X.env v = (do
      let ov ← holding [v] (eval e1 X.env)
      let iv ← holding [v, ov] (eval i1 X.env)
      standAt p1
      holding [v, ov, iv] (setItem ov iv v)
      release [v, ov, iv] []) := by intro _; rfl)
    (hx2 : ∀ v, assign (.Subscript e2 i2 p2) X.env v = (do
      let ov ← holding [v] (eval e2 X.env)
      let iv ← holding [v, ov] (eval i2 X.env)
      standAt p2
      holding [v, ov, iv] (setItem ov iv v)
      release [v, ov, iv] []) := by intro _; rfl)
    (hn : (assignEach [.Subscript e1 i1 p1, .Subscript e2 i2 p2] X.env).length = 2 := by rfl) (hst : (assignEach [.Subscript e1 i1 p1, .Subscript e2 i2 p2] X.env).findIdx? (·.1) = none := by rfl)
    (hs1 : (assignEach [.Subscript e1 i1 p1, .Subscript e2 i2 p2] X.env).map (·.2) = assign (.Subscript e1 i1 p1) X.env :: (assignEach [.Subscript e2 i2 p2] X.env).map (·.2) := by rfl)
    (hs2 : (assignEach [.Subscript e2 i2 p2] X.env).map (·.2) = assign (.Subscript e2 i2 p2) X.env :: (assignEach [] X.env).map (·.2) := by rfl)
    (hs : swapsWithSole [.Tuple [.Subscript e1 i1 p1, .Subscript e2 i2 p2] kt pt] (.Tuple [a1, a2] kt2 pt2) pos.line X.env = pure false := by rfl) (hw : swappedStores [.Tuple [.Subscript e1 i1 p1, .Subscript e2 i2 p2] kt pt] (.Tuple [a1, a2] kt2 pt2) X.env = pure none := by rfl)
    (h1 : (assignEach [.Tuple [.Subscript e1 i1 p1, .Subscript e2 i2 p2] kt pt] X.env).map (·.2) = [assign (.Tuple [.Subscript e1 i1 p1, .Subscript e2 i2 p2] kt pt) X.env] := by rfl) :
    PS X (.Assign [.Tuple [.Subscript e1 i1 p1, .Subscript e2 i2 p2] kt pt] (.Tuple [a1, a2] kt2 pt2) pos) (tS X.K (sSwp o1 k1 o2 k2 f)) :=
  PSi (ps_asg (pe_tup ha) (pg_tup hc (pgs_cons (pg_sub ho1 hk1 (set_any (by omega)) hx1) (pgs_cons (pg_sub ho2 hk2 (set_any (by omega)) hx2) pgs_nil hs2) hs1) hn hst) hs hw h1) fun D σ H ⟨A, S, ρ, w, env, p⟩ =>
    ⟨A, S, ρ, w, env, PostA.seq (P := PostS X.K A H D) p (fun h => h) (fun _ _ h => h) fun vs S1 xs H1 ee1 w1 r1 p1 => by
      split at p1
      case h_2 => exact p1.elim
      rename_i x1 x2
      cases r1 with | cons q1 r1 =>
      cases r1 with | cons q2 r1 =>
      cases r1
      rename_i xv1 xv2
      refine ⟨line1000 (show 2 ≤ 1000 by decide), fun q hq => ⟨q, [xv1, xv2], rfl, .inl (.inl upd_same), rfl, xv1, [xv2], rfl, ?_⟩⟩
      have eL : Ext A H1 A (L2.upd H1 q (.tup [xv1, xv2])) := .laid hq
      have w2 := w1.laid (o := .tup [xv1, xv2]) hq
      have env2 := (env.mono ee1).mono eL
      have p2 := PostS.shift (PostS.shift p1 ee1 w1) eL w2
      refine at_seq (P := PostS X.K A (L2.upd H1 q (.tup [xv1, xv2])) D) w2 env2 p2 (fun h => h) (fun _ _ h => h) fun v1 S2 ov1 H2 e2 w3 rv1 p3 => ?_
      refine at_seq (P := PostS X.K A (L2.upd H1 q (.tup [xv1, xv2])) D) w3 (env2.mono e2) p3 (fun h => h) (fun _ _ h => h) fun i1 S3 iv1 H3 e3 w4 ri1 p4 => ?_
      split at p4
      case h_2 => exact p4.elim
      rename_i S4 h4
      refine ⟨A, S3, v1.th, i1.th, x1, S4, w4, rv1.mono e3, ri1, (q1.mono eL).mono (e2.trans e3), h4, fun H4 e4 w5 => ?_⟩
      have e14 := (e2.trans e3).trans e4
      refine ⟨xv2, [], rfl, ?_⟩
      refine at_seq (P := PostS X.K A (L2.upd H1 q (.tup [xv1, xv2])) D) w5 (env2.mono e14) p4 (fun h => h) (fun _ _ h => h) fun v2 S5 ov2 H5 e5 w6 rv2 p5 => ?_
      refine at_seq (P := PostS X.K A (L2.upd H1 q (.tup [xv1, xv2])) D) w6 ((env2.mono e14).mono e5) p5 (fun h => h) (fun _ _ h => h) fun i2 S6 iv2 H6 e6 w7 ri2 p6 => ?_
      split at p6
      case h_2 => exact p6.elim
      rename_i S7 h7
      refine ⟨A, S6, v2.th, i2.th, x2, S7, w7, rv2.mono e6, ri2, ((q2.mono eL).mono e14).mono (e5.trans e6), h7, fun H7 e7 w8 => ⟨rfl, ?_⟩⟩
      have e17 := (e14.trans (e5.trans e6)).trans e7
      exact p6 A σ H7 e17 w8 (env2.mono e17)⟩
end
end MV
set_option Elab.async false
set_option linter.all false
set_option maxRecDepth 100000
/-! x.extend(t), t a tuple. -/
namespace PySem
open PySem.AutoSeq1 in
theorem meets_extendT (l b : Addr) (xs ys : Array Value) (n m : Nat) (dd : Option Addr) (sl : Array (Option Value)) (h0 : ¬(!xs.isEmpty && Builtin.List.listTooLong (xs.size + ys.size)) = true) (h1 : xs.size ≤ sizeLine) (h2 : xs.size + ys.size ≤ sizeLine + 1) :
    Meets (Builtin.«list.extend» ⟨[.ref l, .ref b], []⟩) (fun _ R s => s.heap.get? l = some { cls := .type "list", data := .seq xs n } ∧
      s.heap.get? b = some { cls := .type "tuple", dict := dd, data := .seq ys m, slots := sl } ∧ R (.ok (.ret Value.none)) { s with heap := s.heap.update l (Obj.mapSeq fun z => z ++ ys) }) :=
  .of_wp fun prog w A R s h => by
    obtain ⟨hp, g, d, tk, os⟩ := s
    obtain ⟨q1, q2, h⟩ := h
    have u1 := idx_int
    have u2 := sub_tuple_tuple
    have u3 := sub_list_list
    have u4 := sub_tuple_list
    have u5 := sub_list_tuple
    have hz : (xs ++ ys).size ≤ sizeLine + 1 := by rw [Array.size_append]; exact h2
    wp_walk using (wpAny_updateSeq q1 rfl (hz := h1) (_hz' := hz)), wpAny_loadPart' q1, wpAny_loadPart' q2
    exact ⟨_, rfl, h⟩
end PySem
namespace MV
open PySem PySem.Spec PyProof.Rows L2
section
variable {X : Cx}
def gExtendT (v : Val) (vs : List Val) (S : Sto) : Res Val := match cellL S v, vs with
  | some (n, ds), [.d (.tuple es)] => if ds.length + es.length ≤ sizeLine then .ok (.d .none) (S.set n (.lst (ds ++ es))) else .no
  | _, _ => .no
theorem mExtendT : MRul X "list.extend" gExtendT := by
  intro pins s σ A S H x xs u us v vs Q I wf rv rvs ru rus p
  unfold gExtendT at p
  split at p
  · rename_i n ds es h1
    split at p
    · rename_i hl
      obtain ⟨a, ys, ha, ma, rfl, h2, h3⟩ := cellL_ok wf rv h1
      cases rvs with | cons r1 r2 =>
      cases r2
      cases r1 with | tup ht hr =>
      obtain ⟨its2, r2, ⟨o, ho, hc, m, hd⟩, z2⟩ := I.tuple ht.seq
      cases ru
      obtain ⟨w, rfl, rw'⟩ := rus.one
      cases rw'
      obtain ⟨z, its, n0, r, hl1, e⟩ := I.lstM h2
      have l1 := h3.length
      have l2 := hr.length
      have l3 := r2.length
      have hsz : its.toArray.size + its2.toArray.size ≤ sizeLine := by rw [List.size_toArray, List.size_toArray]; omega
      obtain ⟨oc, od, odt, osl⟩ := o
      dsimp only at hc hd
      subst hc hd
      refine call_meets F.slot_list_extend ⟨_, e, rfl⟩ F.entry_list_extend (F.args_list_extend_2 _ _)
        (meets_extendT a _ its.toArray its2.toArray n0 m od osl (by rw [notLongL hsz, Bool.and_false]; exact Bool.false_ne_true) (by rw [List.size_toArray]; omega) (by omega)) ⟨e, ho, ?_⟩
      have I2 := I.lset (t' := s.toks) (its' := its ++ its2) (f := fun z => z ++ its2.toArray) h2 e (by simp) (r.append r2) (by rw [List.length_append]; omega)
      exact ⟨.non, _, I2, rfl, p.put wf ha (h3.append hr) .non⟩
    · exact p.elim
  · exact p.elim
/-- a list taken apart -/
def bTupL (bs : List Bnd) : Bnd := ⟨slL bs, fun x ρ => match x with
  | .list ds => goL bs ds ρ
  | _ => none⟩
theorem gTL {pos : Pos} {es : List Expr} {k : Nat} {bs : List Bnd} {n : Nat} (hc : X.calm = true) (h : PGs X es (tGs X.K bs)) (hnb : bs.length = n := by rfl)
    (hn : (assignEach es X.env).length = n := by rfl) (hst : (assignEach es X.env).findIdx? (·.1) = none := by rfl) : PG X (.Tuple es k pos) (tG X.K (bTupL bs)) :=
  ⟨fun pins s σ H v u Q I r hw => (pg_lst hc h hn hst).run pins s σ H v u Q I r (by
    obtain ⟨A, ρ, x, ρ', env, rp, e, q⟩ := hw
    cases rp with
    | lst l t =>
      rename_i a xs ds
      exact ⟨a, xs, rfl, l.seq, by rw [t.length, goL_len e, hnb], A, ρ, ds, ρ', env, t, e, q⟩
    | _ => cases e)⟩
end
end MV
set_option Elab.async false
set_option linter.all false
set_option maxRecDepth 100000
/-! Objects of the program's own classes: made, read, stored into, their methods called; arguments of which the cells just made stay. -/
namespace MV
open PySem PySem.Spec PyProof.Rows L2
section
variable {X : Cx} {K : Frg} {a b : Expr} {fa fb : Sx} {pos : Pos} {A A' A1 A2 W W' : Wd} {H H' H1 H2 : Hp} {S S' S1 S2 : Sto} {Q : VK} {ρ : Envi} {σ : L2.St} {D : Ends}
/-! ### arguments: cells just made are kept as cells -/
def PostP (K : Frg) (A : Wd) (H : Hp) (Q : List V → Hp → Prop) : Res (List Val) → Prop
  | .ok vs S => ∀ A' xs H', Ext A H A' H' → Wf K A' S H' → RvL K A' H' xs vs → Q xs H'
  | .exc _ _ => False
  | .no => False
def tAP (K : Frg) (f : SA) : TA := fun σ H Q => At K σ H fun A ρ S => PostP K A H Q (f ρ S)
def pCons (f : Sx) (g : SA) : SA := fun ρ S => (f ρ S).bind fun v S1 => match v with
  | .f k => (g ρ (S1 ++ [k])).bind fun vs S2 => .ok (.c S1.length :: vs) S2
  | .g cs i => (g ρ (S1 ++ cs)).bind fun vs S2 => .ok (.c (S1.length + i) :: vs) S2
  | v => (g ρ S1).bind fun vs S2 => .ok (v :: vs) S2
theorem pN : PA X [] (tAP X.K aNil) := PAi pa_nil fun σ H Q ⟨A, S, ρ, w, env, p⟩ => p A [] H .refl w .nil
theorem p_tail {g : SA} {v : Val} {x : V} {Q : List V → Hp → Prop} (e1 : Ext A H A1 H1) (w1 : Wf K A1 S1 H1) (env : REnv K A H ρ σ) (rv : Rv K A1 H1 x v) (p : PostP K A H Q ((g ρ S1).bind fun vs S2 => .ok (v :: vs) S2)) :
    tAP K g σ H1 fun xs H2 => Q (x :: xs) H2 := by
  refine ⟨A1, S1, ρ, w1, env.mono e1, ?_⟩
  show PostP K A1 H1 _ (g ρ S1)
  cases h : g ρ S1 with
  | no => rw [h] at p; exact p
  | exc e S => rw [h] at p; exact p
  | ok vs S2 =>
    rw [h] at p
    exact fun A2 xs H2 e2 w2 r2 => p A2 (x :: xs) H2 (e1.trans e2) w2 (.cons (rv.mono e2) r2)
theorem pC {e : Expr} {es : List Expr} {f : Sx} {g : SA} (he : PE X e (tE X.K f)) (hr : PA X es (tAP X.K g)) (hs : starEach (e :: es) X.env = (false, eval e X.env) :: starEach es X.env := by rfl) : PA X (e :: es) (tAP X.K (pCons f g)) :=
  PAi (pa_cons he hr hs) fun σ H Q ⟨A, S, ρ, w, env, p⟩ => ⟨A, S, ρ, w, env, by
    have p : PostP X.K A H Q (pCons f g ρ S) := p
    unfold pCons at p
    show Post X.K A H _ (f ρ S)
    cases h : f ρ S with
    | no => rw [h] at p; exact p
    | exc e S => rw [h] at p; exact p
    | ok v S1 =>
      rw [h] at p
      cases v with
      | d x => exact fun v H1 e1 w1 r1 => p_tail e1 w1 env (v := .d x) r1 p
      | c n => exact fun a H1 e1 w1 r1 => p_tail e1 w1 env (v := .c n) ⟨a, r1, rfl⟩ p
      | z ds => exact fun v H1 e1 w1 r1 => p_tail e1 w1 env (v := .z ds) r1 p
      | x => exact fun a H1 e1 w1 => p_tail e1 w1 env (v := .x) ⟨a, rfl⟩ p
      | f k =>
        intro a H1 e1 w1 hn
        have l := w1.drop1.1.len
        refine p_tail (A1 := A.push a) (e1.grow hn) w1 env (v := .c S1.length) ⟨a, ?_, rfl⟩ p
        show (A.A ++ [a])[S1.length]? = some a
        rw [← l]; simp
      | g cs i =>
        intro as a H1 e1 w1 hn hl hi
        have l := w1.len
        have l2 : A.A.length = S1.length := by
          simp [Wd.pushs] at l
          omega
        refine p_tail (A1 := A.pushs as) (e1.grows (K := X.K) hn) w1 env (v := .c (S1.length + i)) ⟨a, ?_, rfl⟩ p
        show (A.A ++ as)[S1.length + i]? = some a
        rw [List.getElem?_append_right (by omega), l2, Nat.add_sub_cancel_left]; exact hi⟩
/-- what goes out: cells made beyond n go, but what is handed on -/
theorem out_ok {v : Val} (w : Wf K A S H) (p : Post K A H Q (out S.length S1 v)) : PostR K A S1 H Q v := by
  have hsl : ∀ {A' H'}, Ext A H A' H' → Wf K A' S1 H' → Wf K A (S1.take S.length) H' := fun e w1 => by
    rw [← w.len]; exact w1.less e
  have lessV : ∀ {A' : Wd} {H' : Hp}, Ext A H A' H' → ∀ b, b ∈ A.V → b ∈ A'.V := fun {A' H'} e b m => by
    rw [Wd.mem] at m ⊢
    obtain ⟨B, h1⟩ := e.pre
    rw [e.pr, h1]
    exact m.imp id fun m => List.mem_append_left _ m
  have lessRp : ∀ {A' : Wd} {H' : Hp} {v : V} {d : PyData}, Ext A H A' H' → Rp K A'.V H' v d → Rp K A.V H' v d := fun {A' H' v d} e r => r.mono (kp_less (lessV e))
  cases v with
  | d x => exact fun A' v H' e w1 r => p v H' (Ext.less (B := []) e) (hsl e w1) (lessRp e r)
  | z ds =>
    intro A' v H' e w1 r
    obtain ⟨a, ys, rfl, h1, t1⟩ := r
    exact p _ H' (Ext.less (B := []) e) (hsl e w1) ⟨a, ys, rfl, h1.imp (fun q => ⟨q.1, fun m => q.2 (lessV e a m)⟩) id, t1.mono (kp_less (lessV e))⟩
  | x => exact fun A' v H' e w1 => p v H' (Ext.less (B := []) e) (hsl e w1)
  | g cs i =>
    intro A' as a H' e w1 hn hl hi
    obtain ⟨B, rfl, hB⟩ := e.fresh (by have := w1.nd; exact (List.nodup_append.mp this).1)
    have p : Post K A H Q (.ok (.g (S1.drop S.length ++ cs) (S1.length - S.length + i)) (S1.take S.length)) := p
    have l1 := w.len
    have l2 := w1.len
    simp [Wd.pushs] at l2
    refine p (B ++ as) a H' (Ext.less (B := []) e) ?_ (fun b hb => ?_) (by simp; omega) ?_
    · rw [← List.append_assoc, List.take_append_drop]
      have e2 : (A.pushs B).pushs as = A.pushs (B ++ as) := by simp [Wd.pushs]
      rw [← e2]; exact w1
    · rcases List.mem_append.mp hb with m | m
      · exact hB b m
      · exact hn b m
    · rw [List.getElem?_append_right (by omega)]
      rw [show S1.length - S.length + i - B.length = i by omega]; exact hi
  | f k =>
    intro A' a H' e w1 hn
    have p : Post K A H Q (if k.lt S.length = true then .ok (.f k) (S1.take S.length) else .ok (.g (S1.drop S.length ++ [k]) (S1.length - S.length)) (S1.take S.length)) := p
    obtain ⟨w2, c, na⟩ := w1.drop1
    have e2 : Ext A H (A'.push a) H' := by
      refine ⟨e.pr, ?_, fun b m => ?_, e.keep⟩
      · obtain ⟨B, h1⟩ := e.pre
        exact ⟨B ++ [a], by show A'.A ++ [a] = _; rw [h1, List.append_assoc]⟩
      · rcases List.mem_append.mp m with m | m
        · exact e.new b m
        · rw [List.mem_singleton.mp m]; exact .inr hn
    by_cases hk : k.lt S.length = true
    · rw [if_pos hk] at p
      have hp := w1.pick (j := A'.A.length) (a := a) (k := k) e2 (by obtain ⟨B, h1⟩ := e.pre; rw [h1]; simp) (by simp [Wd.push]) (by rw [w2.len]; simp) (by rw [w.len]; exact hk)
      refine p a H' (Ext.less (B := []) e) ?_ hn
      have q := hp.1
      have hle : A.A.length ≤ S1.length := by rw [← w2.len]; obtain ⟨B, h1⟩ := e.pre; rw [h1]; simp
      rw [List.take_append_of_le_length hle, w.len] at q
      exact q
    · rw [if_neg hk] at p
      obtain ⟨B, rfl, hB⟩ := e.fresh w2.nd
      have l1 := w.len
      have l2 := w2.len
      simp [Wd.pushs] at l2
      refine p (B ++ [a]) a H' (Ext.less (B := []) e) ?_ (fun b hb => ?_) (by simp; omega) ?_
      · rw [← List.append_assoc, List.take_append_drop]
        have e3 : (A.pushs B).push a = A.pushs (B ++ [a]) := by simp [Wd.pushs, Wd.push]
        rw [← e3]; exact w1
      · rcases List.mem_append.mp hb with m | m
        · exact hB b m
        · rw [List.mem_singleton.mp m]; exact hn
      · rw [List.getElem?_append_right (by omega)]
        rw [show S1.length - S.length - B.length = 0 by omega]; rfl
  | c j =>
    intro A' a H' e w1 hj
    have p : Post K A H Q (if j < S.length then .ok (.c j) (S1.take S.length) else match S1[j]? with
      | some k => if k.lt S.length = true then .ok (.f k) (S1.take S.length) else .ok (.g (S1.drop S.length) (j - S.length)) (S1.take S.length)
      | none => .no) := p
    by_cases hjn : j < S.length
    · rw [if_pos hjn] at p
      refine p a H' (Ext.less (B := []) e) (hsl e w1) ?_
      obtain ⟨B, h1⟩ := e.pre
      rw [h1, List.getElem?_append_left (by rw [w.len]; exact hjn)] at hj
      exact hj
    · rw [if_neg hjn] at p
      split at p
      · rename_i k hk
        by_cases hlk : k.lt S.length = true
        · rw [if_pos hlk] at p
          have hp := w1.pick (j := j) (a := a) (k := k) e (by rw [w.len]; omega) hj hk (by rw [w.len]; exact hlk)
          have q := hp.1
          rw [w.len] at q
          exact p a H' (Ext.less (B := []) e) q hp.2
        · rw [if_neg hlk] at p
          obtain ⟨B, rfl, hB⟩ := e.fresh w1.nd
          have l1 := w.len
          have l2 := w1.len
          simp [Wd.pushs] at l2
          refine p B a H' (Ext.less (B := []) e) ?_ hB (by simp; omega) ?_
          · rw [List.take_append_drop]; exact w1
          · have hj : (A.A ++ B)[j]? = some a := hj
            rw [List.getElem?_append_right (by omega), l1] at hj; exact hj
      · exact p.elim
theorem postR_post {v : Val} (h : PostR K A S H Q v) (e1 : Ext A H A1 H1) (w1 : Wf K A1 S1 H1) : Post K A1 H1 Q (.ok v S) := by
  cases v with
  | d x => exact fun v H' e w r => h A1 v H' (e1.trans e) w r
  | c n => exact fun a H' e w r => h A1 a H' (e1.trans e) w r
  | f k => exact fun a H' e w r => h A1 a H' (e1.trans e) w (e1.free w1 r)
  | z ds => exact fun v H' e w r => h A1 v H' (e1.trans e) w r
  | g cs i => exact fun as a H' e w q l j => h A1 as a H' (e1.trans e) w (fun b hb => e1.free w1 (q b hb)) l j
  | x => exact fun a H' e w => h A1 a H' (e1.trans e) w
/-! ### calls with such arguments -/
def evCallP (m : Fn) (f : SA) : Sx := fun ρ S => (f ρ S).bind fun vs S1 => (m vs S1).bind fun v S2 => out S.length S2 v
theorem callP_ok {m : Fn} {f : SA} (h : tE K (evCallP m f) σ H Q) : tCl (spF K m) (tAP K f) σ H Q := by
  obtain ⟨A, S, ρ, w, env, p⟩ := h
  refine ⟨A, S, ρ, w, env, ?_⟩
  have p : Post K A H Q (evCallP m f ρ S) := p
  unfold evCallP at p
  show PostP K A H _ (f ρ S)
  cases hf : f ρ S with
  | no => rw [hf] at p; exact p
  | exc e S => rw [hf] at p; exact p
  | ok vs S1 =>
    rw [hf] at p
    intro A1 xs H1 e1 w1 r1
    refine ⟨A1, S1, vs, w1, r1, ?_⟩
    have p : Post K A H Q ((m vs S1).bind fun v S2 => out S.length S2 v) := p
    cases hm : m vs S1 with
    | no => rw [hm] at p; exact p
    | exc e S => rw [hm] at p; exact p
    | ok v S2 =>
      rw [hm] at p
      exact postR_post (out_ok w p) e1 w1
section
variable {x : Str} {p : Pos} {e : Expr} {es : List Expr} {f : SA} {k j : Nat} {m : Fn}
theorem eCalP (C : Cal X.prog X.w X.K X.mg X.base k x m) (hr : Room j X.A) (gd : X.A.guards = some []) (hk : k ≤ j) (hg : Gl X x) (ha : PA X (e :: es) (tAP X.K f)) (hdb : (x == ("__debug__" : Str)) = false := by decide)
    (he : starEach (e :: es) X.env = (false, eval e X.env) :: starEach es X.env := by rfl) (hpl : (backTo pos (starEach es X.env)).any (·.1) = false := by rfl) : PE X (.Call (.Name x p) (e :: es) [] pos) (tE X.K (evCallP m f)) := by
  obtain ⟨fa, fd, ps, F, hm, hkp, hb⟩ := C.ex
  exact PEi (peG F (hr.mono hk) gd hg hm hkp hb ha hdb he hpl) fun σ H Q => callP_ok
end
/-! ### C(..) -/
/-- the class named nm is made by a def that keeps the mirror m -/
structure Mak (P : Program) (w : World) (K : Frg) (mg : Str → Option Value) (base : Heap) (k : Nat) (nm : Str) (m : Fn) : Prop where
  ex : ∃ (C f : Addr) (fd : FuncData) (ps : List Str), Mk K C f ∧ FnG P w K mg base k f fd ps (spF K m) ∧ mg nm = some (.ref C) ∧ PySem.W.nsIn K mainGlobals nm = some (some (.ref C)) ∧ Binds K fd ps []
def evMake (nm : Str) (m : Fn) (f : SA) : Sx := fun ρ S => (f ρ S).bind fun vs S1 => (m (.c S1.length :: vs) (S1 ++ [.ins nm []])).bind fun v S2 => match v with
  | .d .none => out S.length S2 (.c S1.length)
  | _ => .no
def tMk (C : Addr) (sp : Sp) (t : TA) : TE := fun σ H Q => t σ H fun vs H1 => ∀ x dx, H1 x = none → H1 dx = none → dx ≠ x → sp (.ref x :: vs) (upd (upd H1 dx (.own x)) x (.ins C dx [])) (fun v H2 => v = .non ∧ Q (.ref x) H2) E0
section
variable {x : Str} {p : Pos} {e : Expr} {es : List Expr} {f : SA} {k j : Nat} {m : Fn} {C g : Addr} {fd : FuncData} {ps : List Str} {sp : Sp} {t : TA}
theorem guards_call {A : Around} {v : Value} {us : List Value} : (A.under (.builtin "type.__call__" ⟨v :: us, []⟩)).guards = A.guards := by
  have e : (A.under (.builtin "type.__call__" ⟨v :: us, []⟩)).guards = pushGuards (Code.guards (.builtin "type.__call__" ⟨v :: us, []⟩)) A.guards := rfl
  have g : Code.isGuard (.builtin "type.__call__" ⟨v :: us, []⟩) = false := by
    show guardIds.contains "type.__call__" = false
    decide +kernel
  have e2 : Code.guards (.builtin "type.__call__" ⟨v :: us, []⟩) = [] := by
    unfold Code.guards
    rw [g]
    rfl
  rw [e, e2]
  rfl
theorem run_mk {pins : List (Addr × Obj)} {s : Shared} {us : List Value} {vs : List V} (M : Mk X.K C g) (F : FnG X.prog X.w X.K X.mg X.base k g fd ps sp) (hr : Room (k + 1) X.A) (gd : X.A.guards = some []) (hb : Binds X.K fd ps []) (I : Inv X pins σ H s) (r : Vals vs us)
    (h : ∀ x dx, H x = none → H dx = none → dx ≠ x → sp (.ref x :: vs) (upd (upd H dx (.own x)) x (.ins C dx [])) (fun v H2 => v = .non ∧ Q (.ref x) H2) E0) :
    wpAny (model X.prog X.w) X.A (call (.ref C) us) (EP X pins σ Q) X.xe s := by
  have hq := h (s.heap.objs.size + 1) s.heap.objs.size (I.hok.fresh (Nat.le_succ _)) (I.hok.fresh (Nat.le_refl _)) (Nat.ne_of_lt (Nat.lt_succ_self _))
  have I2 := Inv.made (C := C) I
  have r2 : Vals (V.ref (s.heap.objs.size + 1) :: vs) (Value.ref (s.heap.objs.size + 1) :: us) := .cons rfl r
  have hl : (Value.ref (s.heap.objs.size + 1) :: us).length = ps.length := by
    rw [← r2.length]
    exact F.arity _ _ _ _ hq
  have b := hb _ (Value.ref (s.heap.objs.size + 1) :: us) I2.kIn (by rw [List.append_nil]; exact hl)
  rw [List.append_nil] at b
  refine wpAny_call (make_map (f := g) I.kIn M.makes M.init (beq_iff_eq.mp M.fn) (codeAny_mono (F.runs _ X.stack _ _ ⟨Value.ref (s.heap.objs.size + 1) :: us, []⟩ (Value.ref (s.heap.objs.size + 1) :: us) _ _ E0 (hr.make C us []) ?_
    (I2.env0.make C us []) b r2 hq) fun r s' hq' => ?_))
  · rw [guards_call]
    exact gd
  cases r with
  | error e => exact hq'.elim
  | ok fl =>
    cases fl with
    | ret u =>
      obtain ⟨v, H', I3, rv, ev, q3⟩ := I2.after hq'
      subst ev
      exact ⟨rv, ⟨V.ref (s.heap.objs.size + 1), H', I3, rfl, q3⟩⟩
    | next => exact False.elim hq'
    | brk => exact False.elim hq'
    | cont => exact False.elim hq'
theorem pe_mk (M : Mk X.K C g) (F : FnG X.prog X.w X.K X.mg X.base k g fd ps sp) (hr : Room (k + 1) X.A) (gd : X.A.guards = some []) (hg : Gl X x) (hm : X.mg x = some (.ref C)) (hb : Binds X.K fd ps [])
    (ha : PA X (e :: es) t) (hdb : (x == ("__debug__" : Str)) = false := by decide) (he : starEach (e :: es) X.env = (false, eval e X.env) :: starEach es X.env := by rfl) (hpl : (backTo pos (starEach es X.env)).any (·.1) = false := by rfl) :
    PE X (.Call (.Name x p) (e :: es) [] pos) (tMk C sp t) := by
  refine ⟨fun pins s σ H Q I h => ?_⟩
  refine wpAny_Call_Name_kw (ld_glob I hg hm ?_ hdb)
  refine PySem.W.callWith_K (h₀ := X.base) I.ok.mod.kin M.kp (thn (ha.run pos pins s σ H _ I h) fun us s1 ⟨vs, H1, I1, r, q⟩ => ⟨I1.kIn, ?_⟩) he hpl
  exact run_mk M F hr gd hb I1 r q
theorem eMak (C : Mak X.prog X.w X.K X.mg X.base k x m) (hr : Room j X.A) (gd : X.A.guards = some []) (hk : k + 1 ≤ j) (hg : Gl X x) (ha : PA X (e :: es) (tAP X.K f)) (hdb : (x == ("__debug__" : Str)) = false := by decide)
    (he : starEach (e :: es) X.env = (false, eval e X.env) :: starEach es X.env := by rfl) (hpl : (backTo pos (starEach es X.env)).any (·.1) = false := by rfl) : PE X (.Call (.Name x p) (e :: es) [] pos) (tE X.K (evMake x m f)) := by
  obtain ⟨C, g, fd, ps, M, F, hm, hn, hb⟩ := C.ex
  refine PEi (pe_mk M F (hr.mono hk) gd hg hm hb ha hdb he hpl) fun σ H Q ⟨A, S, ρ, w, env, p⟩ => ⟨A, S, ρ, w, env, ?_⟩
  have p : Post X.K A H Q (evMake x m f ρ S) := p
  unfold evMake at p
  show PostP X.K A H _ (f ρ S)
  cases hf : f ρ S with
  | no => rw [hf] at p; exact p
  | exc e S => rw [hf] at p; exact p
  | ok vs S1 =>
    rw [hf] at p
    intro A1 xs H1 e1 w1 r1 y dy hy hdy ne
    have p : Post X.K A H Q ((m (.c S1.length :: vs) (S1 ++ [.ins x []])).bind fun v S2 => match v with
      | .d .none => out S.length S2 (.c S1.length)
      | _ => .no) := p
    have l1 := w1.len
    have hy' : (upd H1 dy (.own y)) y = none := by rw [upd_ne (Ne.symm ne)]; exact hy
    have wa := w1.laid (o := .own y) hdy
    have wb : Wf X.K (A1.push y) (S1 ++ [.ins x []]) (upd (upd H1 dy (.own y)) y (.ins C dy [])) := wa.new (o := .ins C dy []) hy' ⟨C, dy, [], hn, upd_same, .nil⟩
    have eb : Ext A1 H1 (A1.push y) (upd (upd H1 dy (.own y)) y (.ins C dy [])) := (Ext.laid hdy).trans (Ext.push hy' wa)
    have ry : Rv X.K (A1.push y) (upd (upd H1 dy (.own y)) y (.ins C dy [])) (.ref y) (.c S1.length) := ⟨y, by
      show (A1.A ++ [y])[S1.length]? = some y
      rw [← l1]; simp, rfl⟩
    refine ⟨A1.push y, _, _, wb, .cons ry (r1.mono eb), ?_⟩
    cases hm : m (.c S1.length :: vs) (S1 ++ [.ins x []]) with
    | no => rw [hm] at p; exact p
    | exc e S => rw [hm] at p; exact p
    | ok v S2 =>
      rw [hm] at p
      dsimp only [Res.bind] at p
      split at p
      · intro v H2 e2 w2 r2
        cases r2
        refine ⟨rfl, ?_⟩
        have q := out_ok w p
        refine q (A1.push y) y H2 ((e1.trans eb).trans e2) w2 ?_
        show (A1.A ++ [y])[S1.length]? = some y
        rw [← l1]; simp
      · exact p.elim
end
/-! ### attributes -/
/-- what the written part says of an attribute of the classes named -/
def ClsF (K : Frg) (nms : List Str) (f : Str) : Prop := ∀ nm ∈ nms, ∃ C, PySem.W.nsIn K mainGlobals nm = some (some (.ref C)) ∧ L2.Cls K C ∧ NoAttr K C f
def fLook (fs : List (Str × Itm)) (f : Str) : Option Itm := fs.lookup f
abbrev FR (K : Frg) (W : Wd) (H : Hp) : List (Str × V) → List (Str × Itm) → Prop := Paired fun p q => p.1 = q.1 ∧ ItmOk K W H p.2 q.2
theorem FR.look {f : Str} : ∀ {fs : List (Str × V)} {ps : List (Str × Itm)} {i : Itm}, FR K W H fs ps → fLook ps f = some i → ∃ v, fs.lookup f = some v ∧ ItmOk K W H v i
  | _, _, _, .nil, h => by cases h
  | (g, v) :: fs, (g', i') :: ps, i, .cons r t, h => by
    have e : g = g' := r.1
    subst e
    unfold fLook at h
    rw [List.lookup_cons] at h ⊢
    split at h
    · rename_i hb
      cases h
      exact ⟨v, rfl, r.2⟩
    · exact FR.look (f := f) t h
theorem FR.none {f : Str} : ∀ {fs : List (Str × V)} {ps : List (Str × Itm)}, FR K W H fs ps → fLook ps f = none → fs.lookup f = none
  | _, _, .nil, h => rfl
  | (g, v) :: fs, (g', i') :: ps, .cons r t, h => by
    have e : g = g' := r.1
    subst e
    unfold fLook at h
    rw [List.lookup_cons] at h ⊢
    split at h
    · cases h
    · exact FR.none (f := f) t h
def fPut (fs : List (Str × Itm)) (f : Str) (i : Itm) : List (Str × Itm) := match fs with
  | [] => [(f, i)]
  | p :: r => if p.1 = f then (p.1, i) :: r else p :: fPut r f i
theorem FR.put {f : Str} {v : V} {i : Itm} (ri : ItmOk K W H v i) : ∀ {fs : List (Str × V)} {ps : List (Str × Itm)}, FR K W H fs ps → FR K W H (putF f v fs) (fPut ps f i)
  | _, _, .nil => .cons ⟨rfl, ri⟩ .nil
  | (g, u) :: fs, (g', i') :: ps, .cons r t => by
    have e : g = g' := r.1
    subst e
    show FR K W H (if g = f then (g, v) :: fs else (g, u) :: putF f v fs) (if g = f then (g, i) :: ps else (g, i') :: fPut ps f i)
    by_cases q : g = f
    · rw [if_pos q, if_pos q]; exact .cons ⟨rfl, ri⟩ t
    · rw [if_neg q, if_neg q]; exact .cons r (FR.put ri t)
def insOf (nms : List Str) (S : Sto) (v : Val) : Option (Nat × Str × List (Str × Itm)) := match v with
  | .c n => match S[n]? with
    | some (.ins nm fs) => if nm ∈ nms then some (n, nm, fs) else none
    | _ => none
  | _ => none
theorem insOf_ok {nms : List Str} {v : Val} {n : Nat} {nm : Str} {fs : List (Str × Itm)} (h : insOf nms S v = some (n, nm, fs)) : v = .c n ∧ S[n]? = some (.ins nm fs) ∧ nm ∈ nms := by
  unfold insOf at h
  split at h
  case h_2 => cases h
  rename_i m
  split at h
  case h_2 => cases h
  rename_i nm' fs' hs
  split at h
  case isFalse => cases h
  rename_i hm
  cases h
  exact ⟨rfl, hs, hm⟩
def evFld (nms : List Str) (f : Str) (fa : Sx) : Sx := fun ρ S => (fa ρ S).bind fun v S1 => match insOf nms S1 v.th with
  | some (_, _, fs) => match fLook fs f with
    | some i => .ok i.val S1
    | none => .no
  | none => .no
theorem ins_at {nms : List Str} {f : Str} {nm : Str} {n : Nat} {fs : List (Str × Itm)} {x : V} (hc : ClsF K nms f) (w : Wf K A S H) (hm : nm ∈ nms) (hs : S[n]? = some (.ins nm fs)) (r : Rv K A H x (.c n)) :
    ∃ a C dx gs, x = .ref a ∧ A.A[n]? = some a ∧ PySem.W.nsIn K mainGlobals nm = some (some (.ref C)) ∧ H a = some (.ins C dx gs) ∧ FR K A H gs fs ∧ L2.Cls K C ∧ NoAttr K C f := by
  obtain ⟨a, ha, rfl⟩ := r
  obtain ⟨C, dx, gs, hn, h1, h2⟩ := w.ok n a _ ha hs
  obtain ⟨C', hn', hc', ha'⟩ := hc nm hm
  rw [hn] at hn'
  cases hn'
  exact ⟨a, C, dx, gs, rfl, ha, hn, h1, h2, hc', ha'⟩
theorem itm_post {i : Itm} {v : V} (w : Wf K A S H) (r : ItmOk K A H v i) (p : Post K A H Q (.ok i.val S)) : Q v H := by
  cases i with
  | d x => exact p v H .refl w r
  | c m => obtain ⟨b, hb, rfl⟩ := r; exact p b H .refl w hb
theorem eFld {nms : List Str} {f : Str} (hc : ClsF X.K nms f) (ha : PE X a (tE X.K fa)) (hb : attributeBase a f X.env (eval a X.env) = eval a X.env := by rfl) : PE X (.Attribute a f pos) (tE X.K (evFld nms f fa)) :=
  PEi (pe_fld ha hb) fun σ H Q ⟨A, S, ρ, w, env, p⟩ => at_seq (P := Post X.K A H Q) w env p (fun h => h) (fun _ _ h => h) fun v S1 x H1 e1 w1 r1 p1 => by
    split at p1
    case h_2 => exact p1.elim
    rename_i n nm fs hi
    obtain ⟨hv, hs, hm⟩ := insOf_ok hi
    rw [hv] at r1
    obtain ⟨y, C, dx, gs, rfl, hy, hn, h1, h2, hc', ha'⟩ := ins_at hc w1 hm hs r1
    split at p1
    case h_2 => exact p1.elim
    rename_i i hl
    obtain ⟨u, hu, ru⟩ := FR.look (f := f) h2 hl
    exact ⟨y, C, dx, gs, u, rfl, h1, hc', ha', hu, itm_post w1 ru (p1.shift e1 w1)⟩
/-! ### o.f = e -/
def sFldQ (nms : List Str) (f : Str) (fo fe : Sx) : Ss := fun ρ S => (fe ρ S).bind fun x S1 => (fo ρ S1).bind fun v S2 => match insOf nms S2 v.th, itmOf x.th with
  | some (n, nm, fs), some i => if fs.length < 1000 ∧ (Cell.ins nm (fPut fs f i)).lt n = true then .ok (.nx ρ) (S2.set n (.ins nm (fPut fs f i))) else .no
  | _, _ => .no
theorem FR.kp {fs : List (Str × V)} {ps : List (Str × Itm)} (e : Kp W.V H W'.V H') (hA : W'.A = W.A) (r : FR K W H fs ps) : FR K W' H' fs ps := Paired.mapP r fun _ _ h => ⟨h.1, h.2.kp e hA⟩
theorem sFldR {o : Expr} {nms : List Str} {f : Str} {fo : Sx} {pos' : Pos} (hc : ClsF X.K nms f) (ho : PE X o (tE X.K fo)) (he : PE X a (tE X.K fa)) (hs : swapsWith a (some (.Attribute o f pos')) pos.line X.env = pure false := by rfl) :
    PS X (.Assign [.Attribute o f pos'] a pos) (tS X.K (sFldQ nms f fo fa)) := PSi (ps_fld ho he hs) fun D σ H ⟨A, S, ρ, w, env, p⟩ =>
  at_seq (P := PostS X.K A H D) w env p (fun h => h) (fun _ _ h => h) fun x S1 xv H1 e1 w1 r1 p1 =>
    at_seq (P := PostS X.K A H D) w1 (env.mono e1) p1 (fun h => h) (fun _ _ h => h) fun v S2 ov H2 e2 w2 r2 p2 => by
      split at p2
      case h_2 => exact p2.elim
      rename_i n nm fs i hi hx
      obtain ⟨hv, hs, hm⟩ := insOf_ok hi
      rw [hv] at r2
      obtain ⟨y, C, dx, gs, rfl, hy, hn, h1, h2, hc', ha'⟩ := ins_at hc w2 hm hs r2
      split at p2
      case isFalse => exact p2.elim
      rename_i hl
      have ri : ItmOk X.K A H2 xv i := itm_ok hx (r1.mono e2)
      have my : y ∈ A.A := List.mem_of_getElem? hy
      refine ⟨y, C, dx, gs, rfl, h1, hc', ha', by rw [Paired.length h2]; exact hl.1, ?_⟩
      have e3 : Ext A H A (upd H2 y (.ins C dx (putF f xv gs))) := (e1.trans e2).trans (.upd my)
      exact p2 A σ _ e3 (w2.upd hy ⟨C, dx, _, hn, upd_same, (h2.put ri).kp (kp_upd my) rfl⟩ hl.2) (env.mono e3)
/-! ### o.f += e, of whole numbers -/
def sFldAdd (nms : List Str) (f : Str) (fo fe : Sx) : Ss := fun ρ S => (fo ρ S).bind fun v S1 => match insOf nms S1 v.th with
  | some (_, nm, fs) => match fLook fs f with
    | some (.d (.int i)) => (fe ρ S1).bind fun x S2 => match x.th with
      | .d (.int j) => match insOf nms S2 v.th with
        | some (n, nm', gs) => if gs.length < 1000 ∧ nm' = nm ∧ (Cell.ins nm (fPut gs f (.d (.int (i + j))))).lt n = true then .ok (.nx ρ) (S2.set n (.ins nm (fPut gs f (.d (.int (i + j)))))) else .no
        | none => .no
      | _ => .no
    | _ => .no
  | none => .no
theorem sFldAddR {o : Expr} {nms : List Str} {f : Str} {fo : Sx} {tpos : Pos} (hc : ClsF X.K nms f) (ho : PE X o (tE X.K fo)) (he : PE X a (tE X.K fa)) : PS X (.AugAssign (.Attribute o f tpos) .Add a pos) (tS X.K (sFldAdd nms f fo fa)) :=
  PSi (ps_fldaug ho he in_add) fun D σ H ⟨A, S, ρ, w, env, p⟩ =>
  at_seq (P := PostS X.K A H D) w env p (fun h => h) (fun _ _ h => h) fun v S1 ov H1 e1 w1 r1 p1 => by
    split at p1
    case h_2 => exact p1.elim
    rename_i n nm fs hi
    obtain ⟨hv, hs, hm⟩ := insOf_ok hi
    have r1' := r1
    rw [hv] at r1
    obtain ⟨y, C, dx, gs, rfl, hy, hn, h1, h2, hc', ha'⟩ := ins_at hc w1 hm hs r1
    split at p1
    case h_2 => exact p1.elim
    rename_i i hl
    obtain ⟨u, hu, ru⟩ := FR.look (f := f) h2 hl
    have ru : Rp X.K A.V H1 u (.int i) := ru
    cases ru
    refine ⟨y, C, dx, gs, _, rfl, h1, hc', ha', hu, ?_⟩
    refine at_seq (P := PostS X.K A H D) w1 (env.mono e1) p1 (fun h => h) (fun _ _ h => h) fun x S2 xv H2 e2 w2 r2 p2 => ?_
    split at p2
    case h_2 => exact p2.elim
    rename_i j hx
    rw [hx] at r2
    have r2 : Rp X.K A.V H2 xv (.int j) := r2
    cases r2
    split at p2
    case h_2 => exact p2.elim
    rename_i n' nm' fs' hi'
    obtain ⟨hv', hs', hm'⟩ := insOf_ok hi'
    rw [hv] at hv'
    cases hv'
    obtain ⟨y', C', dx', gs', ey, hy', hn', h1', h2', hc2, ha2⟩ := ins_at hc w2 hm' hs' (r1.mono e2)
    cases ey
    split at p2
    case isFalse => exact p2.elim
    rename_i hl'
    obtain ⟨hl1, hl2, hl3⟩ := hl'
    subst hl2
    have hC : C' = C := by
      have q := hn'.symm.trans hn
      cases q
      rfl
    subst hC
    have my : y ∈ A.A := List.mem_of_getElem? hy
    refine ⟨i, j, rfl, rfl, dx', gs', h1', by rw [Paired.length h2']; exact hl1, ?_⟩
    have e3 : Ext A H A (upd H2 y (.ins C' dx' (putF f (.int (i + j)) gs'))) := (e1.trans e2).trans (.upd my)
    have ri : ItmOk X.K A H2 (.int (i + j)) (.d (.int (i + j))) := Rp.int _
    exact p2 A σ _ e3 (w2.upd hy' ⟨C', dx', _, hn', upd_same, (h2'.put ri).kp (kp_upd my) rfl⟩ hl3) (env.mono e3)
/-! ### o.m(..) -/
/-- the method m of the classes named keeps the mirror g -/
structure Mth (P : Program) (w : World) (K : Frg) (mg : Str → Option Value) (base : Heap) (k : Nat) (nm : Str) (x : Str) (m : Fn) : Prop where
  ex : ∃ (C f : Addr) (fd : FuncData) (ps : List Str), PySem.W.nsIn K mainGlobals nm = some (some (.ref C)) ∧ L2.Cls K C ∧ Meth K C x f ∧ FnG P w K mg base k f fd ps (spF K m) ∧ Binds K fd ps []
def evMth (nm : Str) (x : Str) (m : Fn) (fo : Sx) (f : SA) : Sx := fun ρ S => (fo ρ S).bind fun v S1 => match insOf [nm] S1 v.th with
  | some (n, _, fs) => match fLook fs x with
    | none => (f ρ S1).bind fun vs S2 => m (.c n :: vs) S2
    | some _ => .no
  | none => .no
theorem Post.imp {r : Res Val} {Q Q' : VK} (p : Post K A H Q r) (h : ∀ v H', Q v H' → Q' v H') : Post K A H Q' r := by
  cases r with
  | no => exact p
  | exc e S => exact p
  | ok v S =>
    cases v with
    | d x => exact fun v H' e w r => h _ _ (p v H' e w r)
    | c n => exact fun a H' e w r => h _ _ (p a H' e w r)
    | f k => exact fun a H' e w r => h _ _ (p a H' e w r)
    | z ds => exact fun v H' e w r => h _ _ (p v H' e w r)
    | g cs i => exact fun as a H' e w q l j => h _ _ (p as a H' e w q l j)
    | x => exact fun a H' e w => h _ _ (p a H' e w)
section
variable {x nm : Str} {o e : Expr} {es : List Expr} {f : SA} {fo : Sx} {k j : Nat} {m : Fn} {C g : Addr} {fd : FuncData} {ps : List Str} {sp : Sp} {t : TA} {ta : TE} {apos : Pos}
def tMt (C : Addr) (m : Str) (sp : Sp) (ta : TE) (t : TA) : TE := fun σ H Q => ta σ H fun x H1 => ∃ a dx fs, x = .ref a ∧ H1 a = some (.ins C dx fs) ∧ fs.lookup m = none ∧ t σ H1 fun vs H2 => sp (x :: vs) H2 Q E0
theorem pe_mt {pl : Sem Bool} (he : PE X o ta) (c : L2.Cls X.K C) (hm : Meth X.K C x g) (F : FnG X.prog X.w X.K X.mg X.base k g fd ps sp) (hr : Room k X.A) (gd : X.A.guards = some []) (hb : Binds X.K fd ps []) (ha : PA X (e :: es) t)
    (hst : starEach (e :: es) X.env = (false, eval e X.env) :: starEach es X.env := by rfl) (hpl : (backTo pos (starEach es X.env)).any (·.1) = false := by rfl)
    (ht : eval (.Call (.Attribute o x apos) (e :: es) [] pos) X.env = (do
      let ov ← eval o X.env
      standAt apos.atName
      let (f, first) ← holding [ov] (getMethod ov x pl)
      callWith pos f first (backTo pos (starEach (e :: es) X.env)) (backToKw pos (keywordEach [] X.env))) := by rfl) :
    PE X (.Call (.Attribute o x apos) (e :: es) [] pos) (tMt C x sp ta t) := by
  refine ⟨fun pins s σ H Q I h => ?_⟩
  refine PySem.W.methodCall_KW (pl := pl) (thn (he.run pins s σ H _ I h) fun u s1 ⟨x, H1, I1, rx, a, dx, fs, ex, ea, l, q⟩ => ?_) ht
  subst ex
  obtain rfl : u = Value.ref a := rx
  refine getmeth_ok I1 ea c hm l ?_
  refine PySem.W.callWith_K (first := [.ref a]) (h₀ := X.base) I.ok.mod.kin hm.kp (thn (ha.run pos pins s1 σ H1 _ I1 q) fun us s2 ⟨vs, H2, I2, r, q2⟩ => ⟨I2.kIn, ?_⟩) hst hpl
  exact runG (us := .ref a :: us) (xs := .ref a :: vs) F hr gd hb I2 (.cons rfl r) q2
theorem pe_mt0 {pl : Sem Bool} (he : PE X o ta) (c : L2.Cls X.K C) (hm : Meth X.K C x g) (F : FnG X.prog X.w X.K X.mg X.base k g fd ps sp) (hr : Room k X.A) (gd : X.A.guards = some []) (hb : Binds X.K fd ps [])
    (ht : eval (.Call (.Attribute o x apos) [] [] pos) X.env = (do
      let ov ← eval o X.env
      standAt apos.atName
      let (f, first) ← holding [ov] (getMethod ov x pl)
      callWith pos f first (backTo pos (starEach [] X.env)) (backToKw pos (keywordEach [] X.env))) := by rfl) :
    PE X (.Call (.Attribute o x apos) [] [] pos) (tMt C x sp ta (fun _ H Q => Q [] H)) := by
  refine ⟨fun pins s σ H Q I h => ?_⟩
  refine PySem.W.methodCall_KW (pl := pl) (thn (he.run pins s σ H _ I h) fun u s1 ⟨x, H1, I1, rx, a, dx, fs, ex, ea, l, q⟩ => ?_) ht
  subst ex
  obtain rfl : u = Value.ref a := rx
  refine getmeth_ok I1 ea c hm l ?_
  exact PySem.W.callWith_K0 (first := [.ref a]) I1.kIn hm.kp (runG (us := [.ref a]) (xs := [.ref a]) F hr gd hb I1 (.cons rfl .nil) q)
theorem mth_ok {fo : Sx} (h : tE K (evMth nm x m fo f) σ H Q) (hn : PySem.W.nsIn K mainGlobals nm = some (some (.ref C))) : tMt C x (spF K m) (tE K fo) (tAr K f) σ H Q := by
  obtain ⟨A, S, ρ, w, env, p⟩ := h
  refine at_seq (P := Post K A H Q) w env p (fun h => h) (fun _ _ h => h) fun v S1 y H1 e1 w1 r1 p1 => ?_
  split at p1
  case h_2 => exact p1.elim
  rename_i n nm' fs hi
  obtain ⟨hv, hs, hm⟩ := insOf_ok hi
  rw [List.mem_singleton] at hm
  subst hm
  rw [hv] at r1
  obtain ⟨a, ha, rfl⟩ := r1
  obtain ⟨C', dx, gs, hn', h1, h2⟩ := w1.ok n a _ ha hs
  rw [hn] at hn'
  cases hn'
  split at p1
  case h_2 => exact p1.elim
  rename_i hl
  refine ⟨a, dx, gs, rfl, h1, FR.none h2 hl, A, S1, ρ, w1, env.mono e1, ?_⟩
  refine PostA.seq (P := Post K A H Q) p1 (fun h => h) (fun _ _ h => h) fun vs S2 xs H2 e2 w2 r2 p2 => ?_
  exact ⟨A, S2, .c n :: vs, w2, .cons ⟨a, ha, rfl⟩ r2, p2.shift (e1.trans e2) w2⟩
theorem eMth {pl : Sem Bool} (M : Mth X.prog X.w X.K X.mg X.base k nm x m) (hr : Room j X.A) (gd : X.A.guards = some []) (hk : k ≤ j) (ho : PE X o (tE X.K fo)) (ha : PA X (e :: es) (tAr X.K f))
    (hst : starEach (e :: es) X.env = (false, eval e X.env) :: starEach es X.env := by rfl) (hpl : (backTo pos (starEach es X.env)).any (·.1) = false := by rfl)
    (ht : eval (.Call (.Attribute o x apos) (e :: es) [] pos) X.env = (do
      let ov ← eval o X.env
      standAt apos.atName
      let (f, first) ← holding [ov] (getMethod ov x pl)
      callWith pos f first (backTo pos (starEach (e :: es) X.env)) (backToKw pos (keywordEach [] X.env))) := by rfl) :
    PE X (.Call (.Attribute o x apos) (e :: es) [] pos) (tE X.K (evMth nm x m fo f)) := by
  obtain ⟨C, g, fd, ps, hn, c, hm, F, hb⟩ := M.ex
  exact PEi (pe_mt (pl := pl) ho c hm F (hr.mono hk) gd hb ha hst hpl ht) fun σ H Q h => mth_ok h hn
theorem eMth0 {pl : Sem Bool} (M : Mth X.prog X.w X.K X.mg X.base k nm x m) (hr : Room j X.A) (gd : X.A.guards = some []) (hk : k ≤ j) (ho : PE X o (tE X.K fo))
    (ht : eval (.Call (.Attribute o x apos) [] [] pos) X.env = (do
      let ov ← eval o X.env
      standAt apos.atName
      let (f, first) ← holding [ov] (getMethod ov x pl)
      callWith pos f first (backTo pos (starEach [] X.env)) (backToKw pos (keywordEach [] X.env))) := by rfl) :
    PE X (.Call (.Attribute o x apos) [] [] pos) (tE X.K (evMth nm x m fo aNil)) := by
  obtain ⟨C, g, fd, ps, hn, c, hm, F, hb⟩ := M.ex
  refine PEi (pe_mt0 (pl := pl) ho c hm F (hr.mono hk) gd hb ht) fun σ H Q h => ?_
  obtain ⟨A, S, ρ, w, env, p⟩ := mth_ok h hn
  refine ⟨A, S, ρ, w, env, p.imp ?_⟩
  rintro v H1 ⟨a, dx, fs, rfl, h1, h2, A', S', ρ', w', env', p'⟩
  exact ⟨a, dx, fs, rfl, h1, h2, p' [] H1 .refl w' .nil⟩
end
end
end MV
set_option Elab.async false
set_option linter.all false
set_option maxRecDepth 100000
/-! Readings by mirrors: a dict walked by keys, by values; it is locked for good. -/
namespace MV
open PySem PySem.Spec PyProof.Rows L2
section
variable {X : Cx} {K : Frg} {a b : Expr} {fa fb : Sx} {pos : Pos} {A A' A1 A2 W W' : Wd} {H H' H1 H2 : Hp} {S S' S1 S2 : Sto} {Q : VK} {ρ : Envi} {σ : L2.St} {D : Ends} {d : Addr} {o : Obj} {kvs : List (Key × V)}
theorem Ext.frz (h : H d = some (.dK kvs)) (n : d ∉ W.V) : Ext W H W (L2.upd H d (.frz o (.dK kvs))) := ⟨rfl, ⟨[], by simp⟩, fun _ h => .inl h, fun b u e _ => by
  by_cases c : b = d
  · subst c
    rw [h] at e
    cases e
    exact ⟨_, upd_same, .inr ⟨o, kvs, rfl, rfl⟩, fun m => (n (Wd.mem.mpr (.inl m))).elim⟩
  · exact ⟨u, by rw [upd_ne c]; exact e, .inl rfl, fun _ => rfl⟩⟩
theorem Wf.frz (w : Wf K W S H) (h : H d = some (.dK kvs)) (n : d ∉ W.V) : Wf K W S (L2.upd H d (.frz o (.dK kvs))) :=
  ⟨w.len, w.nd, w.lt, fun m b k h1 h2 => (w.ok m b k h1 h2).mono (Ext.frz h n).kp (fun u e => by rw [upd_ne (fun z => n (by rw [← z]; exact Wd.mem.mpr (.inr (List.mem_of_getElem? h1))))]; exact e) (w.lt m k h2) (fun _ _ _ h => h), fun p hp => by
    obtain ⟨q, xs, e, mt⟩ := w.pr p hp
    exact ⟨q, xs, by rw [upd_ne (fun z => n (by rw [← z]; exact Wd.mem.mpr (.inl hp)))]; exact e, mt⟩⟩
def tLk (td : TE) : TE := fun σ H Q => td σ H fun x H1 => ∃ d kvs, x = .ref d ∧ ((∃ o, H1 d = some (.frz o (.dK kvs)) ∧ Q (.ref d) H1) ∨ (H1 d = some (.dK kvs) ∧ ∀ o, Q (.ref d) (L2.upd H1 d (.frz o (.dK kvs)))))
theorem pe_lk {e : Expr} {td : TE} (he : PE X e td) : PE X e (tLk td) := by
  refine ⟨fun pins s σ H Q I h => thn (he.run pins s σ H _ I h) fun u s1 ⟨x, H1, I1, rx, d, kvs, ex, q⟩ => ?_⟩
  subst ex
  rcases q with ⟨o, _, q⟩ | ⟨hd, q⟩
  · exact ⟨.ref d, H1, I1, rx, q⟩
  · obtain ⟨od, I2⟩ := I1.lock hd trivial
    exact ⟨.ref d, _, I2, rx, q od⟩
/-- a dict that is a datum, now locked -/
def DicAt (K : Frg) (A : Wd) (H : Hp) (d : Addr) (o : Obj) (kvs : List (Key × V)) (ps : List (PyData × PyData)) : Prop := H d = some (.frz o (.dK kvs)) ∧ d ∉ A.V ∧ RpD K A.V H kvs ps
theorem DicAt.kx {ps : List (PyData × PyData)} (e : Kx A H A' H') (h : DicAt K A H d o kvs ps) : DicAt K A' H' d o kvs ps := by
  obtain ⟨h1, h2, h3⟩ := h
  obtain ⟨⟨o', g, f⟩, m⟩ := e.2 d _ h1 h2
  rcases f with rfl | ⟨ob, kvs', q, rfl⟩
  · exact ⟨g, m, h3.mono e.2⟩
  · cases q
theorem lk_ok {ps : List (PyData × PyData)} {x : V} {R : V → Hp → Prop} (w : Wf K A S H) (r : Rp K A.V H x (.dict ps)) (h : ∀ d o kvs H', x = .ref d → Ext A H A H' → Wf K A S H' → DicAt K A H' d o kvs ps → R (.ref d) H') :
    ∃ d kvs, x = .ref d ∧ ((∃ o, H d = some (.frz o (.dK kvs)) ∧ R (.ref d) H) ∨ (H d = some (.dK kvs) ∧ ∀ o, R (.ref d) (L2.upd H d (.frz o (.dK kvs))))) := by
  cases r with
  | dic l n t =>
    rename_i d kvs
    refine ⟨d, kvs, rfl, ?_⟩
    rcases l with l | ⟨o, l⟩
    · exact .inr ⟨l, fun o => h d o kvs _ rfl (Ext.frz l n) (w.frz l n) ⟨upd_same, n, t.mono (Ext.frz l n).kp⟩⟩
    · exact .inl ⟨o, l, h d o kvs _ rfl .refl w ⟨l, n, t⟩⟩
theorem rp_kD (k : Key) : Rp K A.V H (kV k) (kD k) := by
  cases k with
  | inl i => exact .int i
  | inr x => exact .str x
theorem src_keys {ps : List (PyData × PyData)} : SrcW K (Itk d o kvs) ⟨ps.map (·.1), []⟩ (fun A H => DicAt K A H d o kvs ps) where
  mono := fun A H A' H' e r => r.kx e
  goes := fun i A S H hi w r gk => ⟨r.1, by
    have := congrArg List.length (rpd_keys r.2.2)
    simp at this hi
    omega⟩
  stops := fun A S H w r gk => ⟨r.1, by
    have := congrArg List.length (rpd_keys r.2.2)
    simp at this ⊢
    omega⟩
  yields := fun i A S H x H' hi w r gk y => by
    obtain ⟨rfl, k, v, hk, rfl⟩ := y
    refine ⟨kD k, ?_, .refl, w, rp_kD k⟩
    show (ps.map (·.1))[i]? = _
    rw [rpd_keys r.2.2, List.getElem?_map, hk]
    rfl
theorem src_vals {ps : List (PyData × PyData)} : SrcW K (Itd d o kvs) ⟨ps.map (·.2), []⟩ (fun A H => DicAt K A H d o kvs ps) where
  mono := fun A H A' H' e r => r.kx e
  goes := fun i A S H hi w r gk => ⟨r.1, by
    have := congrArg List.length (rpd_keys r.2.2)
    simp at this hi
    omega⟩
  stops := fun A S H w r gk => ⟨r.1, by
    have := congrArg List.length (rpd_keys r.2.2)
    simp at this ⊢
    omega⟩
  yields := fun i A S H x H' hi w r gk y => by
    obtain ⟨rfl, k, hk⟩ := y
    obtain ⟨d', h1, h2⟩ := (rpl_vals r.2.2).getV (i := i) (v := x) (by rw [List.getElem?_map, hk]; rfl)
    exact ⟨d', h1, .refl, w, h2⟩
def iKeysD (f : Sx) : SI := fun ρ S => (f ρ S).bind fun v S1 => match v.th with
  | .d (.dict ps) => .ok ⟨ps.map (·.1), []⟩ S1
  | _ => .no
def iValsD (f : Sx) : SI := fun ρ S => (f ρ S).bind fun v S1 => match v.th with
  | .d (.dict ps) => .ok ⟨ps.map (·.2), []⟩ S1
  | _ => .no
section
variable {tg e : Expr} {f : Sx} {apos cpos : Pos}
theorem iKD (he : PE X e (tE X.K f)) : PI X tg e (tI X.K (iKeysD f)) := PIi (pi_keys (pe_lk he)) fun σ H R ⟨A, S, ρ, w, env, p⟩ =>
  at_seq (P := PostI X.K A H R) w env p (fun h => h) (fun _ _ h => h) fun v S1 x H1 e1 w1 r1 p1 => by
    split at p1
    case h_2 => exact p1.elim
    rename_i ps hv
    rw [hv] at r1
    refine lk_ok (R := fun x H1 => ∃ d o, x = .ref d ∧ ((∃ kvs, H1 d = some (.frz o (.dK kvs)) ∧ R (Itk d o kvs) H1) ∨ ∃ kvs, H1 d = some (.frz o (.dT kvs)) ∧ R (Itkt d o kvs) H1)) w1 r1 fun d o kvs H2 ex e2 w2 dd => ?_
    exact ⟨d, o, rfl, .inl ⟨kvs, dd.1, p1 _ _ H2 (e1.trans e2) w2 src_keys dd⟩⟩
theorem iVD (he : PE X e (tE X.K f)) (hbase : attributeBase e "values" X.env (eval e X.env) = eval e X.env := by rfl) (hline : (apos.endLine == cpos.line) = true := by rfl) : PI X tg (.Call (.Attribute e "values" apos) [] [] cpos) (tI X.K (iValsD f)) :=
  PIi (pi_values (pe_lk he) hbase hline) fun σ H R ⟨A, S, ρ, w, env, p⟩ =>
  at_seq (P := PostI X.K A H R) w env p (fun h => h) (fun _ _ h => h) fun v S1 x H1 e1 w1 r1 p1 => by
    split at p1
    case h_2 => exact p1.elim
    rename_i ps hv
    rw [hv] at r1
    refine lk_ok (R := fun x H1 => ∃ d o kvs, x = .ref d ∧ H1 d = some (.frz o (.dK kvs)) ∧ R (Itd d o kvs) H1) w1 r1 fun d o kvs H2 ex e2 w2 dd => ?_
    exact ⟨d, o, kvs, rfl, dd.1, p1 _ _ H2 (e1.trans e2) w2 src_vals dd⟩
/-- a list, a tuple, or a dict's keys -/
def iAny (f : Sx) : SI := fun ρ S => match f ρ S with
  | .ok (.d (.dict ps)) S1 => .ok ⟨ps.map (·.1), []⟩ S1
  | .ok (.f (.dic ps)) S1 => .ok ⟨ps.map (·.1), []⟩ S1
  | _ => iSeq f ρ S
theorem iAny_at {ρ : Envi} {S : Sto} (h : (∃ s S1, iKeysD f ρ S = .ok s S1)) : iAny f ρ S = iKeysD f ρ S := by
  obtain ⟨s, S1, h⟩ := h
  unfold iKeysD at h ⊢
  unfold iAny
  cases hf : f ρ S with
  | no => rw [hf] at h; cases h
  | exc e S2 => rw [hf] at h; cases h
  | ok v S2 =>
    rw [hf] at h
    cases v with
    | d x => cases x <;> first | rfl | cases h
    | f k => cases k <;> first | rfl | cases h
    | _ => cases h
theorem iAn (he : PE X e (tE X.K f)) : PI X tg e (tI X.K (iAny f)) := ⟨fun pins s σ H R I ⟨A, S, ρ, w, env, p⟩ => by
  by_cases c : ∃ s S1, iKeysD f ρ S = .ok s S1
  · have p : PostI X.K A H R (iAny f ρ S) := p
    rw [iAny_at c] at p
    exact (iKD he).run pins s σ H R I ⟨A, S, ρ, w, env, p⟩
  · have p : PostI X.K A H R (iAny f ρ S) := p
    have e2 : iAny f ρ S = iSeq f ρ S := by
      unfold iKeysD at c
      unfold iAny
      cases hf : f ρ S with
      | no => rfl
      | exc e S2 => rfl
      | ok v S2 =>
        rw [hf] at c
        cases v with
        | d x => cases x <;> first | rfl | exact (c ⟨_, _, rfl⟩).elim
        | f k => cases k <;> first | rfl | exact (c ⟨_, _, rfl⟩).elim
        | _ => rfl
    rw [e2] at p
    exact (iS he).run pins s σ H R I ⟨A, S, ρ, w, env, p⟩⟩
end
/-! ### list.count of numbers -/
def gCountI (v : Val) (vs : List Val) (S : Sto) : Res Val := match (asR S v).bind intsOf, vs with
  | some ns, [.d (.int k)] => .ok (.d (.int (ns.countP (· == k) : Nat))) S
  | _, _ => .no
def eqki (k : Int) : Value → Bool
  | .int j _ => j == k
  | _ => false
theorem eqki_gives : ∀ {its : List Value} {ns : List Int} {k : Int} {t : Tok}, Vals (ns.map V.int) its → ∀ y ∈ its, MeetsSeq.EqGives y (.int k t) (eqki k y)
  | _, [], _, _, .nil, y, h => by cases h
  | _, n :: ns, k, t, .cons r rs, y, h => by
    rcases List.mem_cons.mp h with rfl | h
    · obtain ⟨u, rfl⟩ := r
      exact .int n k u t
    · exact eqki_gives rs y h
theorem eqki_count : ∀ {its : List Value} {ns : List Int} {k : Int}, Vals (ns.map V.int) its → its.countP (eqki k) = ns.countP (· == k)
  | _, [], _, .nil => rfl
  | _, n :: ns, k, .cons r rs => by
    obtain ⟨u, rfl⟩ := r
    rw [List.countP_cons, List.countP_cons, eqki_count rs]
    rfl
theorem mCountI : MRul X "list.count" gCountI := by
  intro pins s σ A S H x xs u us v vs Q I wf rv rvs ru rus p
  unfold gCountI at p
  split at p
  case h_2 => exact p.elim
  rename_i ns k hns
  cases rvs with | cons r1 r2 =>
  cases r2
  have r1 : Rp X.K A.V H _ (.int k) := r1
  cases r1
  obtain ⟨y, rfl, ry⟩ := vals1 rus
  obtain ⟨t, rfl⟩ := ry
  cases hl : asR S v with
  | none => rw [hl] at hns; cases hns
  | some ds =>
    rw [hl] at hns
    obtain ⟨a, ys, rfl, h1, h2⟩ := asR_ok wf rv hl
    cases ru
    have ed := intsOf_ok (show intsOf ds = some ns from hns)
    subst ed
    have ey := RpL.ints h2
    subst ey
    obtain ⟨its, rvl, ⟨⟨cls, dd, data, sl⟩, n, ho, hc, hdn, hd⟩, hlen⟩ := I.list h1
    simp only at hc hd
    subst hc hd
    refine call_meets PySem.F.slot_list_count ⟨_, ho, rfl⟩ PySem.F.entry_list_count (PySem.F.args_list_count_2 _ _) (SeqAt.list_countAt a its.toArray n dd sl (.int k t) (eqki k)) ⟨ho, fun y hy => (eqki_gives rvl y (by simpa using hy)).at _ _, ?_⟩
    refine ⟨.int (ns.countP (· == k) : Nat), H, I.tok _, ⟨s.toks, ?_⟩, p _ H .refl wf (.int _)⟩
    show Value.int ((its.toArray.toList.countP (eqki k) : Nat) : Int) s.toks = Value.int ((ns.countP (· == k) : Nat) : Int) s.toks
    rw [show its.toArray.toList = its from rfl, eqki_count rvl]
/-! ### contracts of methods, of classes -/
section
variable {P : Program} {w : World} {mg : Str → Option Value} {base : Heap} {nm x qual : Str} {st : Stmt} {C fa : Addr} {fd : FuncData} {N ps : List Str} {k np : Nat} {body : Ss}
theorem mth_mk (F : Fun K x qual st fa fd) (Sc : FnScope N ps (defScope st)) (hnp : ps.length = np) (hn : PySem.W.nsIn K mainGlobals nm = some (some (.ref C))) (c : L2.Cls K C) (hm : Meth K C x fa) (hb : Binds K fd ps [])
    (h : ∀ (cdv : Value) (A : Around) (outer : List PySem.Env) (s : Shared) (H : Hp) (E : XK), Room k (A.deeper (envOfC qual (defScope st) s.heap.objs.size fa cdv)) → A.guards = some [] → PSs (cxOf CX0 P w K mg base N qual (defScope st) fa cdv A outer s H E).nox (defBody st) (tS K body)) :
    Mth P w K mg base (k + 1) nm x (mkFn np N.length body) := ⟨C, fa, fd, ps, hn, c, hm, fn_ok F Sc hnp h, hb⟩
theorem mak_mk (F : Fun K x qual st fa fd) (Sc : FnScope N ps (defScope st)) (hnp : ps.length = np) (M : Mk K C fa) (hg : mg nm = some (.ref C)) (hn : PySem.W.nsIn K mainGlobals nm = some (some (.ref C))) (hb : Binds K fd ps [])
    (h : ∀ (cdv : Value) (A : Around) (outer : List PySem.Env) (s : Shared) (H : Hp) (E : XK), Room k (A.deeper (envOfC qual (defScope st) s.heap.objs.size fa cdv)) → A.guards = some [] → PSs (cxOf CX0 P w K mg base N qual (defScope st) fa cdv A outer s H E).nox (defBody st) (tS K body)) :
    Mak P w K mg base (k + 1) nm (mkFn np N.length body) := ⟨C, fa, fd, ps, M, fn_ok F Sc hnp h, hg, hn, hb⟩
end
end
end MV
set_option Elab.async false
set_option linter.all false
set_option maxRecDepth 100000
/-! x = []; .. ; ys.append(x): a list is made and put into another one, and is changed no more. -/
namespace MV
open PySem PySem.Spec PyProof.Rows L2
def keepE (n : Nat) (ρ : Envi) : Envi := ρ.map fun o => match o with
  | some (.c m) => if m < n then some (.c m) else none
  | o => o
def sBld (i j : Nat) (f : Ss) : Ss := fun ρ S => (f ρ S).bind fun w S1 => match w with
  | .nx ρ1 => match ρ1[i]?, ρ1[j]? with
    | some (some (.c m)), some (some (.c n)) => match S1[m]?, S1[n]? with
      | some (.lst ds), some (.lst es) => if S.length ≤ m ∧ n < S.length ∧ es.length < sizeLine then .ok (.nx ((keepE S.length ρ1).set i (some (.d (.list ds))))) ((S1.take S.length).set n (.lst (es ++ [.list ds]))) else .no
      | _, _ => .no
    | _, _ => .no
  | _ => .no
section
variable {X : Cx} {K : Frg} {a b : Expr} {fa fb : Sx} {pos : Pos} {A A' A1 A2 W W' : Wd} {H H' H1 H2 : Hp} {S S' S1 S2 : Sto} {Q : VK} {ρ : Envi} {σ : L2.St} {D : Ends}
theorem REnv.keepE {ρ1 : Envi} {σ' : L2.St} (e : Ext A H A' H') (env : REnv K A' H' ρ1 σ') (n : Nat) (hn : n = A.A.length) : REnv K A H' (keepE n ρ1) σ' := by
  subst hn
  have lessV : ∀ b, b ∈ A.V → b ∈ A'.V := fun b m => by
    rw [Wd.mem] at m ⊢
    obtain ⟨B, h1⟩ := e.pre
    rw [e.pr, h1]
    exact m.imp id fun m => List.mem_append_left _ m
  refine ⟨by unfold MV.keepE; rw [List.length_map]; exact env.len, fun i v h => ?_⟩
  unfold MV.keepE at h
  rw [List.getElem?_map] at h
  obtain ⟨o, h1, h2⟩ := Option.map_eq_some_iff.mp h
  have key : ρ1[i]? = some (some v) ∧ (∀ m, v = .c m → m < A.A.length) := by
    cases o with
    | none => cases h2
    | some u =>
      cases u with
      | c m =>
        have h2 : (if m < A.A.length then some (Val.c m) else none) = some v := h2
        split at h2
        · rename_i hm
          cases h2
          exact ⟨h1, fun m' q => by cases q; exact hm⟩
        · cases h2
      | _ => cases h2; exact ⟨h1, fun m q => by cases q⟩
  obtain ⟨x, h3, h4⟩ := env.get i v key.1
  refine ⟨x, h3, ?_⟩
  cases v with
  | d y => exact Rp.mono (kp_less lessV) h4
  | c m =>
    obtain ⟨a, q, rfl⟩ := h4
    obtain ⟨B, h5⟩ := e.pre
    rw [h5, List.getElem?_append_left (key.2 m rfl)] at q
    exact ⟨a, q, rfl⟩
  | f k => exact h4
  | g cs i => exact h4
  | x => exact h4
  | z ds =>
    obtain ⟨a, ys, rfl, g, t⟩ := h4
    exact ⟨a, ys, rfl, g.imp (fun q => ⟨q.1, fun m => q.2 (lessV a m)⟩) id, t.mono (kp_less lessV)⟩
/-- the block -/
theorem ssBld (i j : Nat) {x y : Str} {s1 s2 : Stmt} {f1 f2 : Ss} {p1 p2 apos cpos : Pos} (hi : X.N[i]? = some x) (hj : X.N[j]? = some y) (hij : i ≠ j)
    (hvx : Vis X.env.scope x) (hvy : Vis X.env.scope y) (hdx : (x == ("__debug__" : Str)) = false) (hdy : (y == ("__debug__" : Str)) = false) (hcx : (x == ("__classdict__" : Str)) = false) (hcy : (y == ("__classdict__" : Str)) = false)
    (h1 : PS X s1 (tS X.K f1)) (h2 : PS X s2 (tS X.K f2))
    (hbase : attributeBase (.Name y p1) "append" X.env (eval (.Name y p1) X.env) = eval (.Name y p1) X.env := by rfl)
    (hfew : ((backTo cpos (starEach [.Name x p2] X.env)).all (fun x => !x.1) && (backToKw cpos (keywordEach [] X.env)).all (fun x => x.1.isSome)
      && decide (([Expr.Name x p2] : List Expr).length + ([] : List Keyword).length + (if ([] : List Keyword).isEmpty then 0 else 1) < 30)) = true := by rfl)
    (hline : (apos.endLine == cpos.line) = true := by rfl) (hs : starEach [.Name x p2] X.env = (false, eval (.Name x p2) X.env) :: starEach [] X.env := by rfl) (hplain : (backTo cpos (starEach ([] : List Expr) X.env)).any (·.1) = false := by rfl)
    (hsw : swapsWith (.Call (.Attribute (.Name y p1) "append" apos) [.Name x p2] [] cpos) none pos.line X.env = pure false := by rfl) :
    PSs X [s1, s2, .Expr (.Call (.Attribute (.Name y p1) "append" apos) [.Name x p2] [] cpos) pos] (tS X.K (sBld i j (sSeq f1 f2))) := by
  refine PSsi (pss_cons h1 (pss_cons h2 (pss_one (ps_expr (pe_bm PySem.F.plainAttrs_list PySem.F.slot_list_append PySem.F.type_list_append mt_append (pe_var hj hvy hdy hcy) (pa_cons (pe_var hi hvx hdx hcx) pa_nil) hbase hfew hline hs hplain) hsw)))) ?_
  rintro D σ H ⟨A, S, ρ, w, env, p⟩
  have p : PostS X.K A H D (sBld i j (sSeq f1 f2) ρ S) := p
  -- what comes behind both statements
  have tail : ∀ ρ1 S1 A' σ' H', sSeq f1 f2 ρ S = .ok (.nx ρ1) S1 → Ext A H A' H' → Wf X.K A' S1 H' → REnv X.K A' H' ρ1 σ' → 
      tDrop (tBM X.K "list" rAppend (tVar j) (tCons (tVar i) tNil)) D σ' H' := by
    intro ρ1 S1 A' σ' H' he e w1 env1
    unfold sBld at p
    rw [he] at p
    have p : PostS X.K A H D (match ρ1[i]?, ρ1[j]? with
    | some (some (.c m)), some (some (.c n)) => match S1[m]?, S1[n]? with
      | some (.lst ds), some (.lst es) => if S.length ≤ m ∧ n < S.length ∧ es.length < sizeLine then .ok (.nx ((keepE S.length ρ1).set i (some (.d (.list ds))))) ((S1.take S.length).set n (.lst (es ++ [.list ds]))) else .no
      | _, _ => .no
    | _, _ => .no) := p
    split at p
    case h_2 => exact p.elim
    rename_i m n hm hn
    split at p
    case h_2 => exact p.elim
    rename_i ds es hds hes
    split at p
    case isFalse => exact p.elim
    rename_i c
    obtain ⟨c1, c2, c3⟩ := c
    obtain ⟨u, hu, a, ha, rfl⟩ := env1.get i _ hm
    obtain ⟨v, hv, l, hl, rfl⟩ := env1.get j _ hn
    obtain ⟨xs, g1, g2⟩ := w1.ok m a _ ha hds
    obtain ⟨ys, g3, g4⟩ := w1.ok n l _ hl hes
    have lA : A.A.length = S.length := w.len
    obtain ⟨B, hB⟩ := e.pre
    have hlA : A.A[n]? = some l := by
      rw [hB, List.getElem?_append_left (by omega)] at hl
      exact hl
    have ml : l ∈ A.A := List.mem_of_getElem? hlA
    have naA : a ∉ A.A := fun q => by
      obtain ⟨k, hk, q⟩ := List.mem_iff_getElem.mp q
      have z : A'.A[k]? = some a := by rw [hB, List.getElem?_append_left hk, List.getElem?_eq_getElem hk, q]
      have := (List.getElem?_inj (List.getElem?_eq_some_iff.mp z).1 w1.nd).mp (z.trans ha.symm)
      omega
    have naV : a ∉ A.V := fun q => by
      rcases Wd.mem.mp q with q | q
      · exact (w1.pr a (by rw [e.pr]; exact q)).1 (List.mem_of_getElem? ha)
      · exact naA q
    have lessV : ∀ b, b ∈ A.V → b ∈ A'.V := fun b m => by
      rw [Wd.mem] at m ⊢
      rw [e.pr, hB]
      exact m.imp id fun m => List.mem_append_left _ m
    have ne : a ≠ l := fun q => naA (q ▸ ml)
    have wl := w1.less e
    rw [lA] at wl
    have kl : Kp A'.V H' A.V H' := kp_less lessV
    have ra : Rp X.K A.V (L2.upd H' l (.lst (ys ++ [.ref a]))) (.ref a) (.list ds) := .lst ⟨by rw [upd_ne ne]; exact g1, naV⟩ ((g2.mono kl).mono (kp_upd ml))
    have wf2 : Wf X.K A ((S1.take S.length).set n (.lst (es ++ [.list ds]))) (L2.upd H' l (.lst (ys ++ [.ref a]))) := wl.upd hlA ⟨_, upd_same, ((g4.mono kl).mono (kp_upd ml)).append (.cons ra .nil)⟩
    have e2 : Ext A H A (L2.upd H' l (.lst (ys ++ [.ref a]))) := (Ext.less (B := []) e).trans (.upd ml)
    refine ⟨.ref l, hv, .inl ⟨rfl, ys, SqL.of g3⟩, .ref a, hu, l, ys, .ref a, rfl, rfl, g3, by rw [g4.length]; exact c3, ?_⟩
    refine p A σ' _ e2 wf2 ?_
    have env2 := (env1.keepE e S.length lA.symm).mono (.upd (o := .lst (ys ++ [.ref a])) ml)
    refine ⟨by rw [List.length_set]; exact env2.len, fun k z hk => ?_⟩
    by_cases q : k = i
    · subst q
      have hk2 := (List.getElem?_eq_some_iff.mp hk).1
      rw [List.length_set] at hk2
      rw [List.getElem?_set_self hk2] at hk
      cases hk
      exact ⟨.ref a, hu, ra⟩
    · rw [List.getElem?_set_ne (Ne.symm q)] at hk
      exact env2.get k z hk
  have h0 : PostS X.K A H { D with nx := fun σ' H' => tDrop (tBM X.K "list" rAppend (tVar j) (tCons (tVar i) tNil)) D σ' H' } (sSeq f1 f2 ρ S) := by
    cases hf : sSeq f1 f2 ρ S with
    | no => unfold sBld at p; rw [hf] at p; exact p
    | exc e S => unfold sBld at p; rw [hf] at p; exact p
    | ok v S1 =>
      cases v with
      | nx ρ1 => exact fun A' σ' H' e w1 env1 => tail ρ1 S1 A' σ' H' hf e w1 env1
      | rt v => unfold sBld at p; rw [hf] at p; exact p.elim
      | bk ρ1 => unfold sBld at p; rw [hf] at p; exact p.elim
      | ct ρ1 => unfold sBld at p; rw [hf] at p; exact p.elim
  have h3 := seq_ok w h0
  exact ⟨A, S, ρ, w, env, h3⟩
end
end MV
set_option Elab.async false
set_option linter.all false
set_option maxRecDepth 100000
/-! x = {} or []; ..: a container is made by two statements and is changed no more: from there on it is a datum. -/
namespace MV
open PySem PySem.Spec PyProof.Rows L2
def sFz (i : Nat) (f : Ss) : Ss := fun ρ S => (f ρ S).bind fun w S1 => match w with
  | .nx ρ1 => match ρ1[i]? with
    | some (some (.c m)) => match S1[m]? with
      | some (.lst ds) => if S.length ≤ m then .ok (.nx ((keepE S.length ρ1).set i (some (.d (.list ds))))) (S1.take S.length) else .no
      | some (.dic ps) => if S.length ≤ m then .ok (.nx ((keepE S.length ρ1).set i (some (.d (.dict ps))))) (S1.take S.length) else .no
      | _ => .no
    | _ => .no
  | _ => .no
section
variable {X : Cx}
theorem ssFz (i : Nat) {s1 s2 : Stmt} {rest : List Stmt} {f1 f2 g : Ss} (h1 : PS X s1 (tS X.K f1)) (h2 : PS X s2 (tS X.K f2)) (h3 : PSs X rest (tS X.K g)) : PSs X (s1 :: s2 :: rest) (tS X.K (sSeq (sFz i (sSeq f1 f2)) g)) := by
  refine PSsi (pss_cons h1 (pss_cons h2 h3)) ?_
  rintro D σ H ⟨A, S, ρ, w, env, p⟩
  have p : PostS X.K A H { D with nx := tS X.K g D } (sFz i (sSeq f1 f2) ρ S) := seq_ok w p
  have h0 : PostS X.K A H { D with nx := tS X.K g D } (sSeq f1 f2 ρ S) := by
    cases hf : sSeq f1 f2 ρ S with
    | no => unfold sFz at p; rw [hf] at p; exact p
    | exc e S => unfold sFz at p; rw [hf] at p; exact p
    | ok v S1 =>
      cases v with
      | rt v => unfold sFz at p; rw [hf] at p; exact p.elim
      | bk ρ1 => unfold sFz at p; rw [hf] at p; exact p.elim
      | ct ρ1 => unfold sFz at p; rw [hf] at p; exact p.elim
      | nx ρ1 =>
        intro A' σ' H' e w1 env1
        unfold sFz at p
        rw [hf] at p
        have p : PostS X.K A H { D with nx := tS X.K g D } (match ρ1[i]? with
    | some (some (.c m)) => match S1[m]? with
      | some (.lst ds) => if S.length ≤ m then .ok (.nx ((keepE S.length ρ1).set i (some (.d (.list ds))))) (S1.take S.length) else .no
      | some (.dic ps) => if S.length ≤ m then .ok (.nx ((keepE S.length ρ1).set i (some (.d (.dict ps))))) (S1.take S.length) else .no
      | _ => .no
    | _ => .no) := p
        split at p
        case h_2 => exact p.elim
        rename_i m hm
        obtain ⟨u, hu, a, ha, rfl⟩ := env1.get i _ hm
        have lA : A.A.length = S.length := w.len
        obtain ⟨B, hB⟩ := e.pre
        have off : S.length ≤ m → a ∉ A.V := fun c1 q => by
          rcases Wd.mem.mp q with q | q
          · exact (w1.pr a (by rw [e.pr]; exact q)).1 (List.mem_of_getElem? ha)
          · obtain ⟨k, hk, q⟩ := List.mem_iff_getElem.mp q
            have z : A'.A[k]? = some a := by rw [hB, List.getElem?_append_left hk, List.getElem?_eq_getElem hk, q]
            have := (List.getElem?_inj (List.getElem?_eq_some_iff.mp z).1 w1.nd).mp (z.trans ha.symm)
            omega
        have lessV : ∀ b, b ∈ A.V → b ∈ A'.V := fun b m => by
          rw [Wd.mem] at m ⊢
          rw [e.pr, hB]
          exact m.imp id fun m => List.mem_append_left _ m
        have wl := w1.less e
        rw [lA] at wl
        have kl : Kp A'.V H' A.V H' := kp_less lessV
        have e2 : Ext A H A H' := Ext.less (B := []) e
        have env2 := env1.keepE e S.length lA.symm
        have fin : ∀ y : PyData, Rp X.K A.V H' (.ref a) y → REnv X.K A H' ((keepE S.length ρ1).set i (some (.d y))) σ' := fun y ra => by
          refine ⟨by rw [List.length_set]; exact env2.len, fun k z hk => ?_⟩
          by_cases q : k = i
          · subst q
            have hk2 := (List.getElem?_eq_some_iff.mp hk).1
            rw [List.length_set] at hk2
            rw [List.getElem?_set_self hk2] at hk
            cases hk
            exact ⟨.ref a, hu, ra⟩
          · rw [List.getElem?_set_ne (Ne.symm q)] at hk
            exact env2.get k z hk
        split at p
        · rename_i ds hds
          split at p
          case isFalse => exact p.elim
          rename_i c1
          obtain ⟨xs, g1, g2⟩ := w1.ok m a _ ha hds
          exact p A σ' H' e2 wl (fin _ (.lst ⟨g1, off c1⟩ (g2.mono kl)))
        · rename_i ps hps
          split at p
          case isFalse => exact p.elim
          rename_i c1
          obtain ⟨kvs, g1, g2⟩ := w1.ok m a _ ha hps
          exact p A σ' H' e2 wl (fin _ (.dic (.inl g1) (off c1) (g2.mono kl)))
        · exact p.elim
  exact ⟨A, S, ρ, w, env, seq_ok w h0⟩
end
end MV
set_option Elab.async false
set_option linter.all false
set_option maxRecDepth 100000
/-! dict([(x, []) for x in ..]): a dict of new lists; and such a dict, built by two statements, that is changed no more. -/
namespace MV
open PySem PySem.Spec PyProof.Rows L2
section
variable {X : Cx} {K : Frg} {a b : Expr} {fa fb : Sx} {pos : Pos} {A A' A2 W W' : Wd} {H H' H2 : Hp} {S S' : Sto} {Q : VK} {ρ : Envi} {σ : L2.St} {D : Ends}
theorem Wf.unprot {p : Addr} (w : Wf K (A.prot p) S H) : Wf K A S H := by
  have kp : Kp (A.prot p).V H A.V H := kp_less fun b m => prot_V.mpr (.inl m)
  exact ⟨w.len, w.nd, w.lt, fun n c k h1 h2 => (w.ok n c k h1 h2).mono kp (fun _ h => h) (w.lt n k h2) (fun _ _ _ h => h), fun q hq => w.pr q (List.mem_cons_of_mem _ hq)⟩
/-- keys, each with the cell of its list -/
def keysFor : Nat → List PyData → Option (List (Key × Itm))
  | _, [] => some []
  | n, x :: xs => match kOf x, keysFor (n + 1) xs with
    | some k, some r => some ((k, .c n) :: r)
    | _, _ => none
theorem keysFor_len : ∀ {n : Nat} {xs : List PyData} {qs : List (Key × Itm)}, keysFor n xs = some qs → qs.length = xs.length
  | _, [], _, h => by cases h; rfl
  | n, x :: xs, qs, h => by
    unfold keysFor at h
    split at h
    · rename_i k r h1 h2
      cases h
      rw [List.length_cons, List.length_cons, keysFor_len h2]
    · cases h
def evDictL (src : SI) (i : Nat) : Sx := fun ρ S => (src ρ S).bind fun s S1 => match s.g with
  | [] => if s.items.length ≤ 1000 ∧ i < ρ.length then match keysFor S1.length s.items with
      | some qs => .ok (.g (List.replicate s.items.length (.lst []) ++ [.rcd (rPutAll [] qs)]) s.items.length) S1
      | none => .no
    else .no
  | _ => .no
theorem rput_lt {n : Nat} {k : Key} {i : Itm} (hi : i.lt n = true) : ∀ {ps : List (Key × Itm)}, (Cell.rcd ps).lt n = true → (Cell.rcd (rPut ps k i)).lt n = true := fun {ps} h => by
  unfold rPut
  split
  · show List.all _ _ = true
    rw [List.all_map, List.all_eq_true]
    intro p hp
    have h0 := List.all_eq_true.mp (show ps.all (fun p => p.2.lt n) = true from h) p hp
    dsimp only [Function.comp]
    split
    · exact hi
    · exact h0
  · show List.all _ _ = true
    rw [List.all_append]
    rw [show ps.all (fun p => p.2.lt n) = true from h]
    simp [hi]
theorem rputs_lt {n : Nat} : ∀ {qs ps : List (Key × Itm)}, (∀ q ∈ qs, q.2.lt n = true) → (Cell.rcd ps).lt n = true → (Cell.rcd (rPutAll ps qs)).lt n = true
  | [], _, _, h => h
  | q :: qs, ps, hq, h => rputs_lt (qs := qs) (fun x hx => hq x (List.mem_cons_of_mem _ hx)) (rput_lt (hq q (List.mem_cons_self)) h)
theorem keysFor_lt : ∀ {n : Nat} {xs : List PyData} {qs : List (Key × Itm)}, keysFor n xs = some qs → ∀ q ∈ qs, q.2.lt (n + xs.length) = true
  | _, [], _, h => by cases h; intro q hq; cases hq
  | n, x :: xs, qs, h => by
    unfold keysFor at h
    split at h
    · rename_i k r h1 h2
      cases h
      intro q hq
      rcases List.mem_cons.mp hq with rfl | hq
      · simp [Itm.lt]
      · have := keysFor_lt h2 q hq
        rw [List.length_cons, show n + (xs.length + 1) = n + 1 + xs.length by omega]
        exact this
    · cases h
/-- what the tuples hold -/
theorem keysFor_ok {W : Wd} {R : Addr → Addr → PyData → Prop} (hR : ∀ t c x k, R t c x → kOf x = some k → SqT K H t [kV k, .ref c]) : ∀ {n : Nat} {xs : List PyData} {qs : List (Key × Itm)} {ts cs : List Addr}, keysFor n xs = some qs → ts.length = xs.length → cs.length = xs.length →
    (∀ (j : Nat) (t c : Addr) (x : PyData), ts[j]? = some t → cs[j]? = some c → xs[j]? = some x → R t c x) → (∀ (j : Nat) (c : Addr), cs[j]? = some c → W.A[n + j]? = some c) →
    ∃ kvs : List (Key × V), Paired (fun p kv => SqT K H p [kV kv.1, kv.2]) ts kvs ∧ VR K W H kvs qs
  | _, [], _, [], [], h, _, _, _, _ => by cases h; exact ⟨[], .nil, .nil⟩
  | _, [], _, _ :: _, _, _, h, _, _, _ => by cases h
  | _, [], _, [], _ :: _, _, _, h, _, _ => by cases h
  | _, _ :: _, _, [], _, _, h, _, _, _ => by cases h
  | _, _ :: _, _, _ :: _, [], _, _, h, _, _ => by cases h
  | n, x :: xs, qs, t :: ts, c :: cs, h, h1, h2, h3, h4 => by
    unfold keysFor at h
    split at h
    case h_2 => cases h
    rename_i k r hk hr
    cases h
    obtain ⟨kvs, g1, g2⟩ := keysFor_ok (W := W) hR hr (by simpa using h1) (by simpa using h2) (fun j t c x a b d => h3 (j + 1) t c x a b d) (fun j c' hc => by
      have := h4 (j + 1) c' hc
      rwa [show n + (j + 1) = n + 1 + j by omega] at this)
    exact ⟨(k, .ref c) :: kvs, .cons (hR _ _ _ _ (h3 0 t c x rfl rfl rfl) hk) g1, .cons ⟨rfl, c, by have := h4 0 c rfl; simpa using this, rfl⟩ g2⟩
theorem dictl_ok {src : SI} {i : Nat} {own : List Nat} {r : List V → Hp → VK → Prop} (hsub : i ∈ own)
    (hr : ∀ (a : Addr) (ps : List Addr) (kvs : List (Key × V)) (H : Hp) (Q : VK), SqL K H a (ps.map V.ref) → Paired (fun p kv => SqT K H p [kV kv.1, kv.2]) ps kvs → (∀ q, H q = none → Q (.ref q) (L2.upd H q (.dK (mergeK [] kvs)))) → r [.ref a] H Q)
    (h : tE K (evDictL src i) σ H Q) : tLc (tI K src) (tG K (bName i)) (tB K bYes) (tTup (tCons (tE K (evV i)) (tCons (tLst tNil) tNil))) own σ H fun x H1 => r [x] H1 Q := by
  obtain ⟨A, S, ρ, w, env, p⟩ := h
  refine ⟨A, S, ρ, w, env, PostI.seq (P := Post K A H Q) p (fun h => h) (fun _ _ h => h) fun s S1 J B H1 e1 w1 sw b1 p1 => ?_⟩
  split at p1
  case h_2 => exact p1.elim
  rename_i hg
  split at p1
  case isFalse => exact p1.elim
  rename_i hlen
  obtain ⟨hlen, hil⟩ := hlen
  split at p1
  case h_2 => exact p1.elim
  rename_i qs hqs
  have gk : ∀ S, GOk S s := fun S p hp => by rw [hg] at hp; cases hp
  intro D hD
  have hDP : D ∉ A.P := fun m => w1.off hD (Wd.mem.mpr (.inl m))
  obtain ⟨wD, kD⟩ := w1.protNew (u := .lst []) trivial hD
  have envD := ((env.mono e1).wipe own).kx kD
  have hlw : ρ.length = (wipeE ρ own).length := (wipeE_length ρ own).symm
  refine ⟨fun j m H' => j + m = s.items.length ∧ ∃ (cs ts : List Addr), cs.length = j ∧ ts.length = j ∧ Wf K ((A.prot D).pushs cs) (S1 ++ List.replicate j (.lst [])) H' ∧ (∀ b o, H1 b = some o → b ∉ A.A → ∃ o', H' b = some o' ∧ Fz o o' ∧ (b ∈ A.P → o' = o)) ∧ (∀ b ∈ cs, H1 b = none) ∧ H' D = some (.lst (ts.map V.ref)) ∧
      B ((A.prot D).pushs cs) H' ∧ REnv K ((A.prot D).pushs cs) H' (wipeE ρ own) (wipe σ own) ∧ ∀ (n : Nat) (t c : Addr) (x : PyData), ts[n]? = some t → cs[n]? = some c → s.items[n]? = some x → ∃ kv, H' t = some (.tup [kv, .ref c]) ∧ t ∉ ((A.prot D).pushs cs).A ∧ ∀ k, kOf x = some k → kv = kV k,
    ⟨s.items.length, by simp, [], [], rfl, rfl, ?_, ?_, by simp, upd_same, ?_, ?_, fun n t c x h => by simp at h⟩, ?_⟩
  · have : (A.prot D).pushs [] = A.prot D := by unfold Wd.pushs; rw [List.append_nil]
    rw [this, List.replicate, List.append_nil]
    exact wD
  · intro b o hb nb
    rw [upd_ne (ne_of_none hb hD)]
    exact ⟨o, hb, .inl rfl, fun _ => rfl⟩
  · have : (A.prot D).pushs [] = A.prot D := by unfold Wd.pushs; rw [List.append_nil]
    rw [this]
    exact sw.mono _ _ _ _ kD b1
  · have : (A.prot D).pushs [] = A.prot D := by unfold Wd.pushs; rw [List.append_nil]
    rw [this]
    exact envD
  rintro j m H' ⟨him, cs, ts, hcs, hts, w, keep, fresh, hx, b, env, tups⟩
  have nDA : D ∉ ((A.prot D).pushs cs).A := (w.pr D (List.mem_cons_self)).1
  by_cases hj : j < s.items.length
  · refine .inr ⟨sw.goes j _ _ H' hj w b (gk _), fun H' => ∃ (cs ts : List Addr), cs.length = j + 1 ∧ ts.length = j + 1 ∧ Wf K ((A.prot D).pushs cs) (S1 ++ List.replicate (j + 1) (.lst [])) H' ∧ (∀ b o, H1 b = some o → b ∉ A.A → ∃ o', H' b = some o' ∧ Fz o o' ∧ (b ∈ A.P → o' = o)) ∧ (∀ b ∈ cs, H1 b = none) ∧ H' D = some (.lst (ts.map V.ref)) ∧
      B ((A.prot D).pushs cs) H' ∧ REnv K ((A.prot D).pushs cs) H' (wipeE ρ own) (wipe σ own) ∧ ∀ (n : Nat) (t c : Addr) (x : PyData), ts[n]? = some t → cs[n]? = some c → s.items[n]? = some x → ∃ kv, H' t = some (.tup [kv, .ref c]) ∧ t ∉ ((A.prot D).pushs cs).A ∧ ∀ k, kOf x = some k → kv = kV k, fun H' h => ⟨m - 1, by omega, by omega, h⟩, fun x H'' y => ?_⟩
    obtain ⟨d, hd, e2, w2, r2⟩ := sw.yields j _ _ H' x H'' hj w b (gk _) y
    refine ⟨(A.prot D).pushs cs, wipeE ρ own, _, (wipeE ρ own).set i (some (.d d)), env.mono e2, r2, rfl, fun σ2 hl hj2 env2 => ⟨wipe_back hl fun k hn => hj2 k fun m => hn (by rw [List.mem_singleton.mp (show k ∈ [i] from m)]; exact hsub), (A.prot D).pushs cs, S1 ++ List.replicate j (.lst []), (wipeE ρ own).set i (some (.d d)), w2, env2, ?_⟩⟩
    show PostB K _ _ _ (.ok true _)
    intro H3 e3 w3
    rw [if_pos rfl]
    refine ⟨(A.prot D).pushs cs, S1 ++ List.replicate j (.lst []), (wipeE ρ own).set i (some (.d d)), w3, env2.mono e3, ?_⟩
    have il : i < (wipeE ρ own).length := by rw [← hlw]; exact hil
    dsimp only [evV]
    rw [List.getElem?_set_self il]
    intro kv H4 e4 w4 rk
    refine ⟨line1000 (by show 0 ≤ 1000; decide), fun c hc => ?_⟩
    refine ⟨line1000 (by show 2 ≤ 1000; decide), fun t ht => ?_⟩
    have e24 := (e2.trans e3).trans e4
    have hx4 := e24.keepL hx nDA
    have cf : H' c = none := e24.free w4 hc
    have nct : t ≠ c := fun z => by rw [z, upd_same] at ht; cases ht
    have ht4 : H4 t = none := by rwa [upd_ne nct] at ht
    have tf : H' t = none := e24.free w4 ht4
    have nDc : D ≠ c := fun z => by rw [z, hc] at hx4; cases hx4
    have nDt : D ≠ t := fun z => by rw [z, ht4] at hx4; cases hx4
    -- the list
    obtain ⟨wc, kc⟩ := w4.protNew (u := .lst []) trivial hc
    have wc2 := wc.protOut (k := .lst []) ⟨[], upd_same, .nil⟩ (fun m => w4.off hc (Wd.mem.mpr (.inl m)))
    -- the tuple
    have wt := wc2.laid (o := .tup [kv, .ref c]) ht
    have ew : (((A.prot D).pushs cs).push c) = (A.prot D).pushs (cs ++ [c]) := pushs_push
    rw [ew] at wt
    have rl : S1 ++ List.replicate j (Cell.lst []) ++ [.lst []] = S1 ++ List.replicate (j + 1) (.lst []) := by
      rw [List.append_assoc, ← List.replicate_succ']
    rw [rl] at wt
    have hD5 : (L2.upd (L2.upd H4 c (.lst [])) t (.tup [kv, .ref c])) D = some (.lst (ts.map V.ref)) := by
      rw [upd_ne nDt, upd_ne nDc]
      exact hx4
    obtain ⟨w5, k5⟩ := wt.protUpd (p := D) (u := .lst (ts.map V.ref ++ [.ref t])) trivial (List.mem_cons_self)
    have hD1 : H1 D = none := hD
    have none1 : ∀ q, H' q = none → H1 q = none := fun q cf => by
      cases hq : H1 q with
      | none => rfl
      | some o =>
        exfalso
        by_cases mA : q ∈ A.A
        · exact w.offA cf (List.mem_append_left _ mA)
        · obtain ⟨o', h1, _⟩ := keep q o hq mA
          rw [h1] at cf
          cases cf
    -- what grew
    have eg : Ext ((A.prot D).pushs cs) H' ((A.prot D).pushs (cs ++ [c])) (L2.upd (L2.upd H4 c (.lst [])) t (.tup [kv, .ref c])) := by
      have ea : Ext ((A.prot D).pushs cs) H' ((A.prot D).pushs cs) (L2.upd (L2.upd H4 c (.lst [])) t (.tup [kv, .ref c])) := (e24.trans (.laid hc)).trans (.laid ht)
      have := ea.grows (K := K) (as := [c]) fun b hb => by rw [List.mem_singleton.mp hb]; exact cf
      rwa [show ((A.prot D).pushs cs).pushs [c] = (A.prot D).pushs (cs ++ [c]) from pushs_push] at this
    refine ⟨ts.map V.ref, hD5, ?_, cs ++ [c], ts ++ [t], by simp [hcs], by simp [hts], w5, fun b o hb nb => ?_, fun b hb => ?_, ?_, sw.mono _ _ _ _ k5 (sw.mono _ _ _ _ eg.kx b), (env.mono eg).kx k5, fun n t' c' x' h1 h2 h3 => ?_⟩
    · rw [List.length_map, hts]
      have : (1000 : Nat) ≤ sizeLine := by decide
      omega
    · rw [upd_ne (ne_of_none hb hD1)]
      obtain ⟨o1, a1, a2, a3⟩ := keep b o hb nb
      refine (fun h => let ⟨o2, b1, b2, b3⟩ := eg.keep b o1 a1 h; ⟨o2, b1, a2.trans b2, fun m => (b3 (List.mem_cons_of_mem _ m)).trans (a3 m)⟩) fun m => ?_
      rcases List.mem_append.mp m with m | m
      · exact nb m
      · rw [fresh b m] at hb
        cases hb
    · rcases List.mem_append.mp hb with hb | hb
      · exact fresh b hb
      · rw [List.mem_singleton.mp hb]
        exact none1 c cf
    · rw [List.map_append]
      exact upd_same
    · by_cases hn : n < j
      · rw [List.getElem?_append_left (by omega)] at h1 h2
        obtain ⟨kv', a1, a2, a3⟩ := tups n t' c' x' h1 h2 h3
        have z : (L2.upd (L2.upd H4 c (.lst [])) t (.tup [kv, .ref c])) t' = some (.tup [kv', .ref c']) := by
          obtain ⟨o', b1, b2, _⟩ := eg.keep t' _ a1 a2
          rcases b2 with rfl | ⟨_, _, q, _⟩
          · exact b1
          · cases q
        refine ⟨kv', ?_, ?_, a3⟩
        · rw [upd_ne (fun q => by rw [q, hD5] at z; cases z)]
          exact z
        · intro m
          rcases List.mem_append.mp (show t' ∈ (A.A ++ (cs ++ [c])) from m) with m | m
          · exact a2 (List.mem_append_left _ m)
          · rcases List.mem_append.mp m with m | m
            · exact a2 (List.mem_append_right _ m)
            · rw [List.mem_singleton.mp m, cf] at a1
              cases a1
      · have nl : n < (ts ++ [t]).length := (List.getElem?_eq_some_iff.mp h1).1
        have en : n = j := by simp [hts] at nl; omega
        subst en
        rw [List.getElem?_append_right (by omega), hts, Nat.sub_self] at h1
        rw [List.getElem?_append_right (by omega), hcs, Nat.sub_self] at h2
        cases h1
        cases h2
        rw [hd] at h3
        cases h3
        refine ⟨kv, by rw [upd_ne (Ne.symm nDt), upd_same], fun m => ?_, fun k hk => Rp.key rk hk⟩
        rcases List.mem_append.mp (show t ∈ (A.A ++ (cs ++ [c])) from m) with m | m
        · exact w.offA tf (List.mem_append_left _ m)
        · rcases List.mem_append.mp m with m | m
          · exact w.offA tf (List.mem_append_right _ m)
          · exact nct (List.mem_singleton.mp m)
  · have hn : j = s.items.length := by omega
    subst hn
    refine .inl ⟨sw.stops _ _ H' w b (gk _), ?_⟩
    have lenA : A.A.length = S1.length := w1.len
    have hat : ∀ (n : Nat) (c : Addr), cs[n]? = some c → (A.pushs cs).A[S1.length + n]? = some c := fun n c hc => by
      show (A.A ++ cs)[S1.length + n]? = some c
      rw [List.getElem?_append_right (by omega), show S1.length + n - A.A.length = n by omega]
      exact hc
    obtain ⟨kvs, g1, g2⟩ := keysFor_ok (K := K) (H := H') (W := A.pushs cs) (R := fun t c x => ∃ kv, H' t = some (.tup [kv, .ref c]) ∧ ∀ k, kOf x = some k → kv = kV k) (fun t c x k ⟨kv, h1, h2⟩ hk => by rw [← h2 k hk]; exact .inl (.inl h1)) hqs hts hcs (fun n t c x a1 a2 a3 => by
      obtain ⟨kv, h1, _, h2⟩ := tups n t c x a1 a2 a3
      exact ⟨kv, h1, h2⟩) hat
    refine hr D ts kvs H' Q (.inl (.inl hx)) g1 fun q hq => ?_
    have wA : Wf K (A.pushs cs) (S1 ++ List.replicate s.items.length (.lst [])) H' := Wf.unprot (p := D) w
    obtain ⟨w6, k6⟩ := wA.protNew (u := .dK (mergeK [] kvs)) trivial hq
    have lt : (Cell.rcd (rPutAll [] qs)).lt (S1 ++ List.replicate s.items.length (Cell.lst [])).length = true := by
      refine rputs_lt (fun x hx => ?_) rfl
      have := keysFor_lt hqs x hx
      rw [List.length_append, List.length_replicate]
      exact this
    have w7 := w6.protOut (k := .rcd (rPutAll [] qs)) ⟨_, upd_same, VR.puts (VR.kp k6.2 rfl g2) .nil⟩ (fun m => wA.off hq (Wd.mem.mpr (.inl m))) lt
    have ex : Ext A H1 A (L2.upd H' q (.dK (mergeK [] kvs))) := ⟨rfl, ⟨[], by simp⟩, fun _ h => .inl h, fun b o hb nb => by
      obtain ⟨o', a1, a2, a3⟩ := keep b o hb nb
      rw [upd_ne (fun z => by rw [z, hq] at a1; cases a1)]
      exact ⟨o', a1, a2, a3⟩⟩
    have q1 : H1 q = none := by
      cases hq1 : H1 q with
      | none => rfl
      | some o =>
        exfalso
        by_cases mA : q ∈ A.A
        · exact w.offA hq (List.mem_append_left _ mA)
        · obtain ⟨o', h1, _⟩ := keep q o hq1 mA
          rw [h1] at hq
          cases hq
    have efr : ∀ b ∈ cs ++ [q], H b = none := fun b hb => by
      rcases List.mem_append.mp hb with hb | hb
      · exact e1.free w1 (fresh b hb)
      · rw [List.mem_singleton.mp hb]
        exact e1.free w1 q1
    refine p1 (cs ++ [q]) q _ (e1.trans ex) ?_ efr (by simp [hcs]) ?_
    · rw [← pushs_push, ← List.append_assoc]
      exact w7
    · rw [List.getElem?_append_right (by omega), show s.items.length - cs.length = 0 by omega]
      rfl
/-- dict([(x, []) for x in ..]) -/
theorem eDictL {i : Nat} {elt tg iter : Expr} {scope : Scope} {own : List (Str × Nat)} {src : SI} {p lpos : Pos} (hc : X.calm = true) (hN : X.N.Nodup) (hgd : Gl X "dict") (hmd : X.mg "dict" = none) (hi : PI X tg iter (tI X.K src)) (ok : BlkOk X.N X.env.scope scope own) (hsub : i ∈ own.map (·.2))
    (hg : ∀ (s : Shared) (H : Hp) (C : Addr) (cl : List (Str × Addr)) (fp : List Addr), PG (X.blk s H scope (compEnvC scope cl C X.env) fp) tg (tG X.K (bName i)))
    (he : ∀ (s : Shared) (H : Hp) (C : Addr) (cl : List (Str × Addr)) (fp : List Addr), PE (X.blk s H scope (compEnvC scope cl C X.env) fp) elt (tTup (tCons (tE X.K (evV i)) (tCons (tLst tNil) tNil)))) (hs : ∀ x, foldedSetIterable iter X.env x = pure x := by intro _; rfl)
    (h1 : starEach [.ListComp elt [⟨tg, iter, [], 0⟩] scope lpos] X.env = (false, eval (.ListComp elt [⟨tg, iter, [], 0⟩] scope lpos) X.env) :: starEach [] X.env := by rfl) :
    PE X (.Call (.Name "dict" p) [.ListComp elt [⟨tg, iter, [], 0⟩] scope lpos] [] pos) (tE X.K (evDictL src i)) :=
  PEi (pe_callTy (call_dictP hc) hgd hmd (by decide +kernel) (pa_cons (pe_lc (tt := tB X.K bYes) hc hN hi ok hg (fun _ _ _ _ _ => tsN) he hs) pa_nil h1) (by decide) (by decide) h1) fun σ H Q h =>
    dictl_ok (K := X.K) hsub (r := fun xs H Q => ∃ (a : Addr) (ps : List Addr) (kvs : List (Key × V)), xs = [.ref a] ∧ SqL X.K H a (ps.map V.ref) ∧ Paired (fun (p : Addr) (kv : Key × V) => SqT X.K H p [kV kv.1, kv.2]) ps kvs ∧ ∀ p, H p = none → Q (.ref p) (L2.upd H p (.dK (mergeK [] kvs)))) (fun a ps kvs H Q h1 h2 h3 => ⟨a, ps, kvs, rfl, h1, h2, h3⟩) h
/-! the dict becomes a datum -/
/-- the lists that the cells are -/
def lstsOf (n : Nat) (S : Sto) : List (Key × Itm) → Option (List (PyData × PyData))
  | [] => some []
  | (k, .c m) :: r => match S[m]?, lstsOf n S r with
    | some (.lst ds), some ps => if n ≤ m then some ((kD k, .list ds) :: ps) else none
    | _, _ => none
  | (k, .d x) :: r => match lstsOf n S r with
    | some ps => some ((kD k, x) :: ps)
    | none => none
def sFzG (i : Nat) (f : Ss) : Ss := fun ρ S => (f ρ S).bind fun w S1 => match w with
  | .nx ρ1 => match ρ1[i]? with
    | some (some (.c m)) => match S1[m]? with
      | some (.rcd ps) => match lstsOf S.length S1 ps with
        | some qs => if S.length ≤ m then .ok (.nx ((keepE S.length ρ1).set i (some (.d (.dict qs))))) (S1.take S.length) else .no
        | none => .no
      | _ => .no
    | _ => .no
  | _ => .no
theorem lstsOf_ok {W W' : Wd} {n : Nat} (w : Wf K W' S H) (off : ∀ (m : Nat) (a : Addr), n ≤ m → W'.A[m]? = some a → a ∉ W.V) (kl : Kp W'.V H W.V H) : ∀ {ps : List (Key × Itm)} {kvs : List (Key × V)} {qs : List (PyData × PyData)}, lstsOf n S ps = some qs → VR K W' H kvs ps → RpD K W.V H kvs qs
  | [], _, _, h, .nil => by cases h; exact .nil
  | (k, .c m) :: r, _, qs, h, .cons (a := p) h1 t => by
    unfold lstsOf at h
    split at h
    case h_2 => cases h
    rename_i ds ps hds hr
    split at h
    case isFalse => cases h
    rename_i hm
    cases h
    obtain ⟨e, a, ha, hv⟩ := h1
    obtain ⟨xs, g1, g2⟩ := w.ok m a _ ha hds
    obtain ⟨pk, pv⟩ := p
    dsimp only at e hv
    subst e
    subst hv
    exact .cons (.lst ⟨g1, off m a hm ha⟩ (g2.mono kl)) (lstsOf_ok w off kl hr t)
  | (k, .d x) :: r, _, qs, h, .cons (a := p) h1 t => by
    unfold lstsOf at h
    split at h
    case h_2 => cases h
    rename_i ps hr
    cases h
    obtain ⟨e, hv⟩ := h1
    obtain ⟨pk, pv⟩ := p
    dsimp only at e hv
    subst e
    have hv : Rp K W'.V H pv x := hv
    exact .cons (hv.mono kl) (lstsOf_ok w off kl hr t)
theorem ssFzG (i : Nat) {s1 s2 : Stmt} {rest : List Stmt} {f1 f2 g : Ss} (h1 : PS X s1 (tS X.K f1)) (h2 : PS X s2 (tS X.K f2)) (h3 : PSs X rest (tS X.K g)) : PSs X (s1 :: s2 :: rest) (tS X.K (sSeq (sFzG i (sSeq f1 f2)) g)) := by
  refine PSsi (pss_cons h1 (pss_cons h2 h3)) ?_
  rintro D σ H ⟨A, S, ρ, w, env, p⟩
  have p : PostS X.K A H { D with nx := tS X.K g D } (sFzG i (sSeq f1 f2) ρ S) := seq_ok w p
  have h0 : PostS X.K A H { D with nx := tS X.K g D } (sSeq f1 f2 ρ S) := by
    cases hf : sSeq f1 f2 ρ S with
    | no => unfold sFzG at p; rw [hf] at p; exact p
    | exc e S => unfold sFzG at p; rw [hf] at p; exact p
    | ok v S1 =>
      cases v with
      | rt v => unfold sFzG at p; rw [hf] at p; exact p.elim
      | bk ρ1 => unfold sFzG at p; rw [hf] at p; exact p.elim
      | ct ρ1 => unfold sFzG at p; rw [hf] at p; exact p.elim
      | nx ρ1 =>
        intro A' σ' H' e w1 env1
        unfold sFzG at p
        rw [hf] at p
        have p : PostS X.K A H { D with nx := tS X.K g D } (match ρ1[i]? with
    | some (some (.c m)) => match S1[m]? with
      | some (.rcd ps) => match lstsOf S.length S1 ps with
        | some qs => if S.length ≤ m then .ok (.nx ((keepE S.length ρ1).set i (some (.d (.dict qs))))) (S1.take S.length) else .no
        | none => .no
      | _ => .no
    | _ => .no) := p
        split at p
        case h_2 => exact p.elim
        rename_i m hm
        split at p
        case h_2 => exact p.elim
        rename_i ps hps
        split at p
        case h_2 => exact p.elim
        rename_i qs hqs
        split at p
        case isFalse => exact p.elim
        rename_i c1
        obtain ⟨u, hu, a, ha, rfl⟩ := env1.get i _ hm
        have lA : A.A.length = S.length := w.len
        obtain ⟨B, hB⟩ := e.pre
        have off : ∀ (m : Nat) (a : Addr), S.length ≤ m → A'.A[m]? = some a → a ∉ A.V := fun m a c1 ha q => by
          rcases Wd.mem.mp q with q | q
          · exact (w1.pr a (by rw [e.pr]; exact q)).1 (List.mem_of_getElem? ha)
          · obtain ⟨k, hk, q⟩ := List.mem_iff_getElem.mp q
            have z : A'.A[k]? = some a := by rw [hB, List.getElem?_append_left hk, List.getElem?_eq_getElem hk, q]
            have := (List.getElem?_inj (List.getElem?_eq_some_iff.mp z).1 w1.nd).mp (z.trans ha.symm)
            omega
        have lessV : ∀ b, b ∈ A.V → b ∈ A'.V := fun b m => by
          rw [Wd.mem] at m ⊢
          rw [e.pr, hB]
          exact m.imp id fun m => List.mem_append_left _ m
        have wl := w1.less e
        rw [lA] at wl
        have kl : Kp A'.V H' A.V H' := kp_less lessV
        have e2 : Ext A H A H' := Ext.less (B := []) e
        have env2 := env1.keepE e S.length lA.symm
        have fin : ∀ y : PyData, Rp X.K A.V H' (.ref a) y → REnv X.K A H' ((keepE S.length ρ1).set i (some (.d y))) σ' := fun y ra => by
          refine ⟨by rw [List.length_set]; exact env2.len, fun k z hk => ?_⟩
          by_cases q : k = i
          · subst q
            have hk2 := (List.getElem?_eq_some_iff.mp hk).1
            rw [List.length_set] at hk2
            rw [List.getElem?_set_self hk2] at hk
            cases hk
            exact ⟨.ref a, hu, ra⟩
          · rw [List.getElem?_set_ne (Ne.symm q)] at hk
            exact env2.get k z hk
        obtain ⟨kvs, g1, g2⟩ := w1.ok m a _ ha hps
        exact p A σ' H' e2 wl (fin _ (.dic (.inl g1) (off m a c1 ha) (lstsOf_ok w1 off kl hqs g2)))
  exact ⟨A, S, ρ, w, env, seq_ok w h0⟩
end
end MV
set_option Elab.async false
set_option linter.all false
set_option maxRecDepth 100000
/-! dicts of lists that are changed: k in d, d.pop(k), d == {}. -/
namespace MV
open PySem PySem.Spec PyProof.Rows L2
section
variable {X : Cx} {K : Frg} {a b : Expr} {fa fb : Sx} {pos : Pos} {A A' A2 W W' : Wd} {H H' H2 : Hp} {S S' : Sto} {Q : VK} {ρ : Envi} {σ : L2.St} {D : Ends}
/-! ### k in d -/
def rIn (S : Sto) (v w : Val) : Option Bool := match w with
  | .c n => match S[n]? with
    | some (.rcd ps) => match v with
      | .d y => match kOf y with
        | some k => some (rLook ps k).isSome
        | none => none
      | _ => none
    | _ => none
  | _ => none
theorem rin_core (hu : X.A.units + 65 < cLine) {pins : List (Addr × Obj)} {s : Shared} {x y : V} {u u' : Value} {v w : Val} {c : Bool} {Q' : Value → Shared → Prop} (I : Inv X pins σ H s) (wf : Wf X.K A S H) (rv : Rv X.K A H x v) (rw : Rv X.K A H y w) (ru : RelV x u) (ru' : RelV y u') (h : rIn S v w = some c)
    (neg : Bool) (q : ∀ s', Inv X pins σ H s' → Q' (.bool (if neg then !c else c)) s') : wpAny (model X.prog X.w) X.A (compareOp (if neg then .NotIn else .In) u u') Q' X.xe s := by
  unfold rIn at h
  split at h
  case h_2 => cases h
  rename_i n
  split at h
  case h_2 => cases h
  rename_i ps hps
  split at h
  case h_2 => cases h
  rename_i d
  split at h
  case h_2 => cases h
  rename_i k hk
  cases h
  obtain ⟨a, ha, e1⟩ := rw
  subst e1
  obtain ⟨kvs, g1, r1⟩ := wf.ok n a _ ha hps
  cases ru'
  have e2 := Rp.key rv hk
  subst e2
  have r1 : VR X.K A H kvs ps := r1
  have e3 : (valV kvs k).isSome = (rLook ps k).isSome := by
    rcases r1.look (k := k) with ⟨h1, h2⟩ | ⟨d, v, h1, h2, _⟩ <;> rw [h1, h2] <;> rfl
  have hu1 : X.A.units + 1 < cLine := by omega
  cases neg with
  | true =>
    refine d_notIn hu1 I (dget_rd (.inl g1)) ru fun s' I' => ?_
    rw [e3]; exact q s' I'
  | false =>
    refine d_in hu1 I (dget_rd (.inl g1)) ru fun s' I' => ?_
    rw [e3]; exact q s' I'
def gInR : Val → Val → Sto → Res Val := fun v w S => match rIn S v w with
  | some b => .ok (.d (.bool b)) S
  | none => gIn v w S
def gNotInR : Val → Val → Sto → Res Val := fun v w S => match rIn S v w with
  | some b => .ok (.d (.bool (!b))) S
  | none => gNotIn v w S
theorem oInR (hu : X.A.units + 100 < cLine) : ORul X (compareOp .In) gInR := by
  intro pins s σ A S H x y u u' v w Q I wf rv rw ru ru' p
  unfold gInR at p
  split at p
  · rename_i b hb
    exact rin_core (by omega) I wf rv rw ru ru' hb false fun s' I' => ⟨.bl b, H, I', rfl, p _ H .refl wf (.bl _)⟩
  · exact oIn hu pins s σ A S H x y u u' v w Q I wf rv rw ru ru' p
theorem oNotInR (hu : X.A.units + 100 < cLine) : ORul X (compareOp .NotIn) gNotInR := by
  intro pins s σ A S H x y u u' v w Q I wf rv rw ru ru' p
  unfold gNotInR at p
  split at p
  · rename_i b hb
    exact rin_core (by omega) I wf rv rw ru ru' hb true fun s' I' => ⟨.bl (!b), H, I', rfl, p _ H .refl wf (.bl _)⟩
  · exact oNotIn hu pins s σ A S H x y u u' v w Q I wf rv rw ru ru' p
/-! ### d == {} -/
def rLen (S : Sto) : Val → Option Nat
  | .c n => match S[n]? with
    | some (.rcd ps) => some ps.length
    | _ => none
  | _ => none
def gEqR : Val → Val → Sto → Res Val := fun v w S => match rLen S v with
  | some k => match w with
    | .d (.dict []) => .ok (.d (.bool (k == 0))) S
    | _ => .no
  | none => gEq v w S
theorem rLen_ok {x : V} {v : Val} {k : Nat} (w : Wf K A S H) (r : Rv K A H x v) (h : rLen S v = some k) : ∃ a kvs, x = .ref a ∧ H a = some (.dK kvs) ∧ kvs.length = k := by
  unfold rLen at h
  split at h
  case h_2 => cases h
  rename_i n
  split at h
  case h_2 => cases h
  rename_i ps hps
  cases h
  obtain ⟨a, ha, rfl⟩ := r
  obtain ⟨kvs, g1, g2⟩ := w.ok n a _ ha hps
  exact ⟨a, kvs, rfl, g1, Paired.length g2⟩
theorem oEqR (hu : X.A.units + 100 < cLine) : ORul X (compareOp .Eq) gEqR := by
  intro pins s σ A S H x y u u' v w Q I wf rv rw ru ru' p
  unfold gEqR at p
  split at p
  case h_2 => exact oEq hu pins s σ A S H x y u u' v w Q I wf rv rw ru ru' p
  rename_i k hk
  split at p
  case h_2 => exact p.elim
  obtain ⟨a, kvs, rfl, g1, hl⟩ := rLen_ok wf rv hk
  have rw : Rp X.K A.V H y (.dict []) := rw
  cases rw with
  | dic g2 nb g3 =>
    rename_i b ls
    cases g3
    cases ru
    cases ru'
    obtain ⟨_, ya, va, ra, da⟩ := (show ObjOk X.prog X.w H s.heap a (.dK kvs) from I.hok a _ g1)
    obtain ⟨_, yb, vb, rb, db⟩ := dk_rd I.hok g2
    have lb : vb.length = 0 := by rw [← rb.length]; rfl
    have la : va.length = k := by rw [← ra.length]; exact hl
    refine PySem.W.keq_eq (knd := mixKind X.prog X.w) (r := true) ya yb da db (by omega) (fun e => ?_) ⟨.bl (k == 0), H, I, ?_, p _ H .refl wf (.bl _)⟩
    · have : va = [] := List.length_eq_zero_iff.mp (by omega)
      rw [this]
      exact .nil
    · show Value.bool _ = Value.bool _
      rw [la, lb, Bool.and_true]
/-! ### d.pop(k) -/
def rDrop (ps : List (Key × Itm)) (k : Key) : List (Key × Itm) := ps.filter fun p => decide (p.1 ≠ k)
theorem VR.drop {k : Key} : ∀ {kvs : List (Key × V)} {ps : List (Key × Itm)}, VR K W H kvs ps → VR K W H (dropK kvs k) (rDrop ps k)
  | _, _, .nil => .nil
  | p :: kvs, q :: ps, .cons h t => by
    unfold dropK rDrop
    rw [List.filter_cons, List.filter_cons]
    by_cases e : p.1 = k
    · rw [if_neg (by simpa using e), if_neg (by rw [← h.1]; simpa using e)]
      exact VR.drop t
    · rw [if_pos (by simpa using e), if_pos (by rw [← h.1]; simpa using e)]
      exact .cons h (VR.drop t)
theorem rdrop_lt {n : Nat} {k : Key} {ps : List (Key × Itm)} (h : (Cell.rcd ps).lt n = true) : (Cell.rcd (rDrop ps k)).lt n = true := by
  show List.all _ _ = true
  rw [List.all_eq_true]
  intro p hp
  exact List.all_eq_true.mp (show ps.all (fun p => p.2.lt n) = true from h) p (List.mem_filter.mp hp).1
def gPopR (v : Val) (vs : List Val) (S : Sto) : Res Val := match v, vs with
  | .c n, [.d y] => match S[n]? with
    | some (.rcd ps) => match kOf y with
      | some k => match rLook ps k with
        | some i => .ok i.val (S.set n (.rcd (rDrop ps k)))
        | none => .no
      | none => .no
    | _ => .no
  | _, _ => .no
theorem mPopR : MRul X "dict.pop" gPopR := by
  intro pins s σ A S H x xs u us v vs Q I wf rv rvs ru rus p
  unfold gPopR at p
  split at p
  case h_2 => exact p.elim
  rename_i n y
  split at p
  case h_2 => exact p.elim
  rename_i ps hps
  split at p
  case h_2 => exact p.elim
  rename_i k hk
  split at p
  case h_2 => exact p.elim
  rename_i i hi
  obtain ⟨a, ha, e1⟩ := rv
  subst e1
  have ma : a ∈ A.A := List.mem_of_getElem? ha
  obtain ⟨kvs, g1, r1⟩ := wf.ok n a _ ha hps
  have r1 : VR X.K A H kvs ps := r1
  cases rvs with | cons q1 q2 =>
  cases q2
  obtain ⟨u2, rfl, ru2⟩ := vals1 rus
  have q1 : Rp X.K A.V H _ y := q1
  have e := Rp.key q1 hk
  subst e
  cases ru
  rcases r1.look (k := k) with ⟨h1, h2⟩ | ⟨d', zz, h1, h2, h3⟩
  · rw [h1] at hi; cases hi
  rw [h1] at hi
  cases hi
  have wl := wf.lt n _ hps
  refine d_pop I g1 ru2 h2 (.inl rfl) fun w' s' I' rw' => ⟨zz, _, I', rw', ?_⟩
  have w2 : Wf X.K A (S.set n (.rcd (rDrop ps k))) (L2.upd H a (.dK (dropK kvs k))) := wf.upd ha ⟨_, upd_same, (r1.drop).kp (kp_upd ma) rfl⟩ (rdrop_lt wl)
  have h3' := h3.kp (kp_upd (o := .dK (dropK kvs k)) ma) rfl
  cases i with
  | d x => exact p zz _ (.upd ma) w2 h3'
  | c m => obtain ⟨b, hb, rfl⟩ := h3'; exact p b _ (.upd ma) w2 hb
theorem rcd_ty {x : V} {v : Val} {k : Nat} (w : Wf K A S H) (r : Rv K A H x v) (h : rLen S v = some k) : tyW K "dict" x H := by
  obtain ⟨a, kvs, rfl, g1, _⟩ := rLen_ok w r h
  exact .inl (.inr (.inr (.inl ⟨rfl, .inl ⟨kvs, g1⟩⟩)))
def evMtR (m : Val → List Val → Sto → Res Val) (f : Sx) (a : SA) : Sx := fun ρ S => (f ρ S).bind fun v S1 => match rLen S1 v.th with
  | some _ => (a ρ S1).bind fun vs S2 => m v.th vs S2
  | none => .no
variable {o e : Expr} {es : List Expr} {fo : Sx} {f : SA} {name : Str} {apos cpos : Pos} {id : String} {g : Val → List Val → Sto → Res Val}
theorem eMR (pa : PlainAttrs "dict") (slot : Slot "dict" name id) (hty : typeOf (.builtin id) = pure (.type "method_descriptor")) (hm : MRul X id g) (ho : PE X o (tE X.K fo)) (ha : PA X (e :: es) (tAr X.K f))
    (hbase : attributeBase o name X.env (eval o X.env) = eval o X.env := by rfl)
    (hfew : ((backTo cpos (starEach (e :: es) X.env)).all (fun x => !x.1) && (backToKw cpos (keywordEach [] X.env)).all (fun x => x.1.isSome)
      && decide ((e :: es).length + ([] : List Keyword).length + (if ([] : List Keyword).isEmpty then 0 else 1) < 30)) = true := by rfl)
    (hline : (apos.endLine == cpos.line) = true := by rfl) (hs : starEach (e :: es) X.env = (false, eval e X.env) :: starEach es X.env := by rfl) (hplain : (backTo cpos (starEach es X.env)).any (·.1) = false := by rfl) :
    PE X (.Call (.Attribute o name apos) (e :: es) [] cpos) (tE X.K (evMtR g fo f)) := PEi (pe_wm pa slot hty hm.mt ho ha hbase hfew hline hs hplain) fun σ H Q ⟨A, S, ρ, w, env, p⟩ =>
  at_seq (P := Post X.K A H Q) w env p (fun h => h) (fun _ _ h => h) fun v S1 x H1 e1 w1 r1 p1 => by
    split at p1
    · rename_i c hc
      exact ⟨rcd_ty w1 r1 hc, A, S1, ρ, w1, env.mono e1, PostA.seq (P := Post X.K A H Q) p1 (fun h => h) (fun _ _ h => h) fun vs S2 xs H2 e2 w2 r2 p2 => ⟨A, S2, v.th, vs, w2, r1.mono e2, r2, p2.shift (e1.trans e2) w2⟩⟩
    · exact p1.elim
end
end MV
set_option Elab.async false
set_option linter.all false
set_option maxRecDepth 100000
/-! A constant of the module that is a tuple of nine texts. -/
namespace MV
open PySem PySem.Spec PyProof.Rows L2
section
variable {K : Frg}
theorem ktup_nine {a : Addr} {od : Option Addr} {x0 x1 x2 x3 x4 x5 x6 x7 x8 : Str} {t0 t1 t2 t3 t4 t5 t6 t7 t8 : Tok} {n : Nat} {sl : Array (Option Value)} (h : K.lookup a = some ⟨.type "tuple", od, .seq #[.str x0 t0, .str x1 t1, .str x2 t2, .str x3 t3, .str x4 t4, .str x5 t5, .str x6 t6, .str x7 t7, .str x8 t8] n, sl⟩) : KTup K a [.str x0, .str x1, .str x2, .str x3, .str x4, .str x5, .str x6, .str x7, .str x8] :=
  .inr ⟨_, _, n, h, rfl, rfl, (by decide : (9 : Nat) ≤ sizeLine), .cons ⟨t0, rfl⟩ (.cons ⟨t1, rfl⟩ (.cons ⟨t2, rfl⟩ (.cons ⟨t3, rfl⟩ (.cons ⟨t4, rfl⟩ (.cons ⟨t5, rfl⟩ (.cons ⟨t6, rfl⟩ (.cons ⟨t7, rfl⟩ (.cons ⟨t8, rfl⟩ .nil))))))))⟩
end
end MV
set_option Elab.async false
set_option linter.all false
set_option maxRecDepth 100000
set_option maxHeartbeats 1000000
/-! Mirrors evaluated: what a mirror's run comes to, step by step. -/
namespace MV
open PySem PySem.Spec PyProof.Rows L2
/-! ### runs -/
@[irreducible] def wp {α : Type} (r : Res α) (Q : α → Sto → Prop) : Prop := match r with
  | .ok a S => Q a S
  | _ => False
section
variable {α β : Type} {Q P : α → Sto → Prop} {S : Sto} {a : α} {r : Res α}
@[simp] theorem wp_ok : wp (.ok a S) Q = Q a S := by unfold wp; rfl
@[simp] theorem wp_no : wp (Res.no : Res α) Q = False := by unfold wp; rfl
@[simp] theorem wp_exc {e : Exn} : wp (Res.exc e S : Res α) Q = False := by unfold wp; rfl
theorem wp_bind {g : α → Sto → Res β} {R : β → Sto → Prop} : wp (r.bind g) R = wp r fun a S => wp (g a S) R := by
  cases r with
  | ok a S => rw [wp_ok]; rfl
  | exc e S => rw [wp_exc]; exact wp_exc
  | no => rw [wp_no]; exact wp_no
theorem wp.mono (h : wp r P) (i : ∀ a S, P a S → Q a S) : wp r Q := by
  cases r with
  | ok a S => rw [wp_ok] at h ⊢; exact i _ _ h
  | exc e S => rw [wp_exc] at h; exact h.elim
  | no => rw [wp_no] at h; exact h.elim
theorem wp.ex (h : wp r Q) : ∃ a S, r = .ok a S ∧ Q a S := by
  cases r with
  | ok a S => rw [wp_ok] at h; exact ⟨_, _, rfl, h⟩
  | exc e S => rw [wp_exc] at h; exact h.elim
  | no => rw [wp_no] at h; exact h.elim
theorem wp_of (h : r = .ok a S) (q : Q a S) : wp r Q := by rw [h, wp_ok]; exact q
@[simp] theorem bind_ok {g : α → Sto → Res β} : Res.bind (.ok a S) g = g a S := (rfl)
@[simp] theorem bind_no {g : α → Sto → Res β} : Res.bind .no g = .no := (rfl)
@[simp] theorem bind_exc {e : Exn} {g : α → Sto → Res β} : Res.bind (.exc e S) g = .exc e S := (rfl)
theorem bind_of {g : α → Sto → Res β} (h : r = .ok a S) : r.bind g = g a S := by rw [h, bind_ok]
@[simp] theorem bind_assoc {γ : Type} {g : α → Sto → Res β} {k : β → Sto → Res γ} : (r.bind g).bind k = r.bind fun a S => (g a S).bind k := by cases r <;> rfl
end
/-! ### each construct at a frame and a store -/
section
variable {ρ : Envi} {S : Sto} {f g h : Sx} {a : SA} {t u : SB} {s s' : Ss} {i j : Nat}
@[simp] theorem th_d {x : PyData} : (Val.d x).th = .d x := (rfl)
@[simp] theorem th_c {n : Nat} : (Val.c n).th = .c n := (rfl)
@[simp] theorem th_z {n : List PyData} : (Val.z n).th = .z n := (rfl)
@[simp] theorem lt_lst {n : Nat} {ds : List PyData} : Cell.lt n (.lst ds) = true := (rfl)
@[simp] theorem lt_dic {n : Nat} {ds : List (PyData × PyData)} : Cell.lt n (.dic ds) = true := (rfl)
@[simp] theorem th_f {ds : List PyData} : (Val.f (.lst ds)).th = .d (.list ds) := (rfl)
@[simp] theorem th_fd {ds : List (PyData × PyData)} : (Val.f (.dic ds)).th = .d (.dict ds) := (rfl)
@[simp] theorem data_lst {ds : List PyData} : (Cell.lst ds).data = .list ds := (rfl)
@[simp] theorem data_dic {ds : List (PyData × PyData)} : (Cell.dic ds).data = .dict ds := (rfl)
@[simp] theorem e_V : evV i ρ S = (match ρ[i]? with | some (some v) => .ok v S | _ => .no) := (rfl)
@[simp] theorem e_K {x : PyData} : evK x ρ S = .ok (.d x) S := (rfl)
@[simp] theorem e_2 {o : Val → Val → Sto → Res Val} : ev2 o f g ρ S = (f ρ S).bind fun v S1 => (g ρ S1).bind fun w S2 => o v.th w.th S2 := (rfl)
@[simp] theorem e_tst : tst f ρ S = (f ρ S).bind fun v S1 => (match v with | .d (.bool b) => .ok b S1 | _ => .no) := (rfl)
@[simp] theorem e_bAnd : bAnd t u ρ S = (t ρ S).bind fun c S1 => if c = true then u ρ S1 else .ok false S1 := (rfl)
@[simp] theorem e_bOr : bOr t u ρ S = (t ρ S).bind fun c S1 => if c = true then .ok true S1 else u ρ S1 := (rfl)
@[simp] theorem e_bNot : bNot t ρ S = (t ρ S).bind fun c S1 => .ok (!c) S1 := (rfl)
@[simp] theorem e_And : evAnd f g ρ S = (tst f ρ S).bind fun c S1 => if c = true then g ρ S1 else .ok (.d (.bool false)) S1 := (rfl)
@[simp] theorem e_Or : evOr f g ρ S = (tst f ρ S).bind fun c S1 => if c = true then .ok (.d (.bool true)) S1 else g ρ S1 := (rfl)
@[simp] theorem e_Not : evNot f ρ S = (tst f ρ S).bind fun c S1 => .ok (.d (.bool (!c))) S1 := (rfl)
@[simp] theorem e_If : evIf t f g ρ S = (t ρ S).bind fun k S1 => if k = true then f ρ S1 else g ρ S1 := (rfl)
@[simp] theorem e_Un {o : Int → Int} : evUn o f ρ S = (f ρ S).bind fun v S1 => (match v with | .d (.int i) => .ok (.d (.int (o i))) S1 | _ => .no) := (rfl)
@[simp] theorem e_Chain {o o' : Val → Val → Sto → Res Val} : evChain o o' f g h ρ S = (f ρ S).bind fun v S1 => (g ρ S1).bind fun w S2 => (o v.th w.th S2).bind fun z S3 => (match z with
  | .d (.bool true) => (h ρ S3).bind fun u S4 => o' w.th u.th S4
  | .d (.bool false) => .ok z S3
  | _ => .no) := (rfl)
@[simp] theorem e_aNil : aNil ρ S = .ok [] S := (rfl)
@[simp] theorem e_aCons : aCons f a ρ S = (f ρ S).bind fun v S1 => (a ρ S1).bind fun vs S2 => .ok (v.th :: vs) S2 := (rfl)
@[simp] theorem e_Tup : evTup a ρ S = (a ρ S).bind fun vs S1 => (match datas vs with | some ds => if ds.length ≤ 1000 then .ok (.d (.tuple ds)) S1 else .no | none => .no) := (rfl)
@[simp] theorem e_Lst : evLst a ρ S = (a ρ S).bind fun vs S1 => (match datas vs with | some ds => if ds.length ≤ 1000 then .ok (.f (.lst ds)) S1 else .no | none => .no) := (rfl)
@[simp] theorem datas_nil : datas [] = some [] := (rfl)
@[simp] theorem datas_d {x : PyData} {r : List Val} : datas (.d x :: r) = (datas r).map (x :: ·) := (rfl)
@[simp] theorem e_Call {m : List Val → Sto → Res Val} : evCall m a ρ S = (a ρ S).bind m := (rfl)
@[simp] theorem e_sNil : sNil ρ S = .ok (.nx ρ) S := (rfl)
@[simp] theorem e_sSeq : sSeq s s' ρ S = (s ρ S).bind fun w S1 => (match w with | .nx ρ1 => s' ρ1 S1 | .rt v => .ok (.rt v) S1 | .bk ρ1 => .ok (.bk ρ1) S1 | .ct ρ1 => .ok (.ct ρ1) S1) := (rfl)
@[simp] theorem e_sBk : sBk ρ S = .ok (.bk ρ) S := (rfl)
@[simp] theorem e_sCt : sCt ρ S = .ok (.ct ρ) S := (rfl)
@[simp] theorem e_sEx : sEx f ρ S = (f ρ S).bind fun _ S1 => .ok (.nx ρ) S1 := (rfl)
@[simp] theorem e_sRt : sRt f ρ S = (f ρ S).bind fun v S1 => .ok (.rt v) S1 := (rfl)
@[simp] theorem e_sRtN : sRtN ρ S = .ok (.rt (.d .none)) S := (rfl)
@[simp] theorem e_sIf : sIf t s s' ρ S = (t ρ S).bind fun k S1 => if k = true then s ρ S1 else s' ρ S1 := (rfl)
@[simp] theorem e_sSet : sSet i f ρ S = (f ρ S).bind fun v S1 => .ok (.nx (ρ.set i (some v.th))) S1 := (rfl)
@[simp] theorem e_sCell : sCell i f ρ S = (f ρ S).bind fun v S1 => (match v with | .f k => .ok (.nx (ρ.set i (some (.c S1.length)))) (S1 ++ [k]) | .g cs j => .ok (.nx (ρ.set i (some (.c (S1.length + j))))) (S1 ++ cs) | _ => .no) := (rfl)
@[simp] theorem e_sAsg {b : Bnd} : sAsg f b ρ S = (f ρ S).bind fun v S1 => (match v.th with | .d x => (match b.go x ρ with | some ρ1 => .ok (.nx ρ1) S1 | none => .no) | _ => .no) := (rfl)
@[simp] theorem e_sPar : sPar i j a ρ S = (a ρ S).bind fun vs S1 => (match vs with | [v, w] => .ok (.nx ((ρ.set i (some v)).set j (some w))) S1 | _ => .no) := (rfl)
@[simp] theorem e_sPar3 {l : Nat} : sPar3 i j l a ρ S = (a ρ S).bind fun vs S1 => (match vs with | [u, v, w] => .ok (.nx (((ρ.set i (some u)).set j (some v)).set l (some w))) S1 | _ => .no) := (rfl)
@[simp] theorem e_sMul {is : List Nat} : sMul is a ρ S = (a ρ S).bind fun vs S1 => if vs.length = is.length ∧ vs.length ≤ 1000 then .ok (.nx (setAll ρ is vs)) S1 else .no := (rfl)
@[simp] theorem e_setAll {v : Val} {is : List Nat} {vs : List Val} : setAll ρ (i :: is) (v :: vs) = setAll (ρ.set i (some v)) is vs := (rfl)
@[simp] theorem e_setAll0 {vs : List Val} : setAll ρ [] vs = ρ := by cases vs <;> rfl
@[simp] theorem e_aCell : aCell f a ρ S = (f ρ S).bind fun v S1 => (match v with | .f k => (a ρ (S1 ++ [k])).bind fun vs S2 => .ok (.c S1.length :: vs) S2 | .g cs j => (a ρ (S1 ++ cs)).bind fun vs S2 => .ok (.c (S1.length + j) :: vs) S2 | _ => .no) := (rfl)
@[simp] theorem e_sPut : sPut f g h ρ S = (h ρ S).bind fun x S1 => (f ρ S1).bind fun v S2 => (g ρ S2).bind fun i S3 => (match gPut v.th i.th x.th S3 with | some S4 => .ok (.nx ρ) S4 | none => .no) := (rfl)
@[simp] theorem e_sAug {o : Val → Val → Sto → Res Val} : sAug i o f ρ S = (match ρ[i]? with | some (some v) => (f ρ S).bind fun w S1 => (o v w.th S1).bind fun z S2 => .ok (.nx (ρ.set i (some z.th))) S2 | _ => .no) := (rfl)
@[simp] theorem e_Mt {T : String} {m : Val → List Val → Sto → Res Val} : evMt T m f a ρ S = (f ρ S).bind fun v S1 => if tyB T S1 v.th = true then (a ρ S1).bind fun vs S2 => m v.th vs S2 else .no := (rfl)
theorem mt_eval {T : String} {m : Val → List Val → Sto → Res Val} {v : Val} {S1 : Sto} (hf : f ρ S = .ok v S1) (ht : tyB T S1 v.th = true) : evMt T m f a ρ S = (a ρ S1).bind fun vs S2 => m v.th vs S2 := by
  rw [e_Mt, hf, bind_ok, if_pos ht]
@[simp] theorem e_Isi {T : String} : evIsi T f ρ S = (f ρ S).bind fun v S1 => (match kind S1 v.th with | some t => .ok (.d (.bool (isOf T t))) S1 | none => .no) := (rfl)
@[simp] theorem e_oNo : oNo ρ S = .ok none S := (rfl)
@[simp] theorem e_oYes : oYes f ρ S = (f ρ S).bind fun v S1 => (match v with | .d (.int i) => .ok (some i) S1 | _ => .no) := (rfl)
@[simp] theorem e_Sl {lo hi : SO} : evSl f lo hi ρ S = (f ρ S).bind fun v S1 => (lo ρ S1).bind fun l S2 => (hi ρ S2).bind fun h S3 => gSl v.th l h S3 := (rfl)
@[simp] theorem e_iSeq : iSeq f ρ S = (f ρ S).bind fun v S1 => (match seqOf S1 v.th with | some (_, ds, g) => .ok ⟨ds, g⟩ S1 | none => .no) := (rfl)
@[simp] theorem e_iBy {m : List Val → Option Src} : iBy m a ρ S = (a ρ S).bind fun vs S1 => (match m vs with | some s => .ok s S1 | none => .no) := (rfl)
@[simp] theorem e_iByS {m : Sto → List Val → Option Src} : iByS m a ρ S = (a ρ S).bind fun vs S1 => (match m S1 vs with | some s => .ok s S1 | none => .no) := (rfl)
@[simp] theorem go_name {x : PyData} : (bName i).go x ρ = some (ρ.set i (some (.d x))) := (rfl)
@[simp] theorem go_tup {bs : List Bnd} {ds : List PyData} : (bTup bs).go (.tuple ds) ρ = goL bs ds ρ := (rfl)
@[simp] theorem goL_nil : goL [] [] ρ = some ρ := (rfl)
@[simp] theorem goL_cons {b : Bnd} {bs : List Bnd} {x : PyData} {xs : List PyData} : goL (b :: bs) (x :: xs) ρ = (match b.go x ρ with | some ρ1 => goL bs xs ρ1 | none => none) := (rfl)
@[simp] theorem e_bYes : bYes ρ S = .ok true S := (rfl)
end
/-! ### operators -/
section
variable {S : Sto} {i j : Int} {ds es : List PyData} {n : Nat}
@[simp] theorem o_int {C : Int → Int → Bool} {g : Int → Int → PyData} : gInt C g (.d (.int i)) (.d (.int j)) S = if C i j = true then .ok (.d (g i j)) S else .no := (rfl)
@[simp] theorem o_sub : gSub (.d (.int i)) (.d (.int j)) S = .ok (.d (.int (i - j))) S := (rfl)
@[simp] theorem o_add : gAdd (.d (.int i)) (.d (.int j)) S = .ok (.d (.int (i + j))) S := (rfl)
@[simp] theorem o_div (h1 : 0 < j) (h2 : j < 1152921504606846976) : gDiv (.d (.int i)) (.d (.int j)) S = .ok (.d (.int (i / j))) S := by
  show (if decide _ = true then _ else _) = _
  have h3 : j.natAbs.log2 < 60 := (Nat.log2_lt (by omega)).mpr (by omega)
  rw [decide_eq_true ⟨h1, by omega⟩, if_pos rfl]
@[simp] theorem o_mod (h : 0 < j) : gMod (.d (.int i)) (.d (.int j)) S = .ok (.d (.int (i % j))) S := by
  show (if decide _ = true then _ else _) = _
  rw [decide_eq_true h, if_pos rfl]
theorem mulOk_l (h : -(2 ^ 64) < i ∧ i < 2 ^ 64) : mulOk i j = true := decide_eq_true (.inl (.inl h))
theorem mulOk_r (h : -(2 ^ 64) < j ∧ j < 2 ^ 64) : mulOk i j = true := decide_eq_true (.inl (.inr h))
theorem o_mul (h : mulOk i j = true) : gMul (.d (.int i)) (.d (.int j)) S = .ok (.d (.int (i * j))) S := if_pos h
@[simp] theorem o_mulL (h1 : -18446744073709551616 < i) (h2 : i < 18446744073709551616) : gMul (.d (.int i)) (.d (.int j)) S = .ok (.d (.int (i * j))) S := if_pos (mulOk_l (by omega))
@[simp] theorem o_mulR (h1 : -18446744073709551616 < j) (h2 : j < 18446744073709551616) : gMul (.d (.int i)) (.d (.int j)) S = .ok (.d (.int (i * j))) S := if_pos (mulOk_r (by omega))
@[simp] theorem o_lt : gLt (.d (.int i)) (.d (.int j)) S = .ok (.d (.bool (decide (i < j)))) S := (rfl)
@[simp] theorem o_le : gLe (.d (.int i)) (.d (.int j)) S = .ok (.d (.bool (decide (i ≤ j)))) S := (rfl)
@[simp] theorem o_gt : gGt (.d (.int i)) (.d (.int j)) S = .ok (.d (.bool (decide (j < i)))) S := (rfl)
@[simp] theorem o_ge : gGe (.d (.int i)) (.d (.int j)) S = .ok (.d (.bool (decide (j ≤ i)))) S := (rfl)
@[simp] theorem o_addT (h : ds.length + es.length ≤ sizeLine) : gAdd (.d (.tuple ds)) (.d (.tuple es)) S = .ok (.d (.tuple (ds ++ es))) S := by
  show (if _ then _ else _) = _
  rw [if_pos h]
@[simp] theorem asL_l : asL S (.d (.list ds)) = some ds := (rfl)
@[simp] theorem asL_t : asL S (.d (.tuple ds)) = none := (rfl)
@[simp] theorem asL_i : asL S (.d (.int i)) = none := (rfl)
@[simp] theorem asL_c : asL S (.c n) = (match S[n]? with | some (.lst ds) => some ds | _ => none) := (rfl)
@[simp] theorem asD_d {x : PyData} : asD S (.d x) = some x := (rfl)
@[simp] theorem asD_z : asD S (.z ds) = some (.list ds) := (rfl)
@[simp] theorem asD_c : asD S (.c n) = (match S[n]? with | some (.lst ds) => some (.list ds) | _ => none) := (rfl)
theorem o_addL {v w : Val} (h1 : asL S v = some ds) (h2 : asL S w = some es) (h : ds.length + es.length ≤ sizeLine) : gAdd v w S = .ok (.f (.lst (ds ++ es))) S := by
  unfold gAdd
  split
  · cases h1
  · cases h1
  · cases h1
  · rw [h1, h2]; exact if_pos h
@[simp] theorem seq_t : seqOf S (.d (.tuple ds)) = some (true, ds, []) := (rfl)
@[simp] theorem seq_l : seqOf S (.d (.list ds)) = some (false, ds, []) := (rfl)
@[simp] theorem seq_z : seqOf S (.z ds) = some (false, ds, []) := (rfl)
@[simp] theorem seq_c : seqOf S (.c n) = (match S[n]? with | some (.lst ds) => some (false, ds, [(n, ds)]) | _ => none) := (rfl)
@[simp] theorem asM_t : asM S (.d (.tuple ds)) = none := (rfl)
@[simp] theorem asM_l : asM S (.d (.list ds)) = none := (rfl)
@[simp] theorem asM_z : asM S (.z ds) = none := (rfl)
@[simp] theorem asM_i : asM S (.d (.int i)) = none := (rfl)
@[simp] theorem asM_s {x : Str} : asM S (.d (.str x)) = none := (rfl)
@[simp] theorem asM_c : asM S (.c n) = (match S[n]? with | some (.dic ps) => some ps | _ => none) := (rfl)
/-- == -/
theorem o_eq {v w : Val} {x y : PyData} (h1 : asD S v = some x) (h2 : asD S w = some y) (s1 : SeqAt.shaped x = true) (s2 : SeqAt.shaped y = true) : gEq v w S = .ok (.d (.bool (PyData.eqv x y))) S := by
  unfold gEq
  split
  · cases h1; cases h2
    rw [PyData.eqv]
    rfl
  · rw [h1, h2]
    exact if_pos ⟨s1, s2⟩
theorem o_ne {v w : Val} {x y : PyData} (h1 : asD S v = some x) (h2 : asD S w = some y) (s1 : SeqAt.shaped x = true) (s2 : SeqAt.shaped y = true) : gNe v w S = .ok (.d (.bool (!PyData.eqv x y))) S := by
  unfold gNe
  split
  · cases h1; cases h2
    rw [PyData.eqv]
    rfl
  · rw [h1, h2]
    exact if_pos ⟨s1, s2⟩
@[simp] theorem o_eqS {x y : Str} : gEq (.d (.str x)) (.d (.str y)) S = .ok (.d (.bool (decide (x = y)))) S := (rfl)
@[simp] theorem o_neS {x y : Str} : gNe (.d (.str x)) (.d (.str y)) S = .ok (.d (.bool (!decide (x = y)))) S := (rfl)
theorem shaped_int (i : Int) : SeqAt.shaped (.int i) = true := by simp [SeqAt.shaped, PyData.canLay0, PyData.depth]
theorem shaped_bool (i : Bool) : SeqAt.shaped (.bool i) = true := by simp [SeqAt.shaped, PyData.canLay0, PyData.depth]
theorem shaped_str {i : Str} (h : PyData.strOk i = true) : SeqAt.shaped (.str i) = true := by simp [SeqAt.shaped, PyData.canLay0, PyData.depth, h]
theorem shaped_none : SeqAt.shaped .none = true := by simp [SeqAt.shaped, PyData.canLay0, PyData.depth]
@[simp] theorem o_eqI : gEq (.d (.int i)) (.d (.int j)) S = .ok (.d (.bool (i == j))) S := by
  rw [o_eq (x := .int i) (y := .int j) rfl rfl (shaped_int _) (shaped_int _)]
  simp [PyData.eqv]
@[simp] theorem o_neI : gNe (.d (.int i)) (.d (.int j)) S = .ok (.d (.bool (!(i == j)))) S := by
  rw [o_ne (x := .int i) (y := .int j) rfl rfl (shaped_int _) (shaped_int _)]
  simp [PyData.eqv]
/-- in -/
theorem o_inT {d : PyData} (h : ∀ i, d ≠ .str i ∨ True) (s1 : SeqAt.shaped d = true) (s2 : SeqAt.shaped (.list ds) = true) : isIn S (.d d) (.d (.tuple ds)) = some (ds.any fun z => PyData.eqv z d) := by
  have e : isIn S (.d d) (.d (.tuple ds)) = (if SeqAt.shaped d = true ∧ SeqAt.shaped (.list ds) = true then some (ds.any fun z => PyData.eqv z d) else none) := by
    unfold isIn
    cases d <;> rfl
  rw [e, if_pos ⟨s1, s2⟩]
theorem o_inL {v : Val} {d : PyData} {n : Nat} (h : asD S v = some d) (e : S[n]? = some (.lst ds)) (s1 : SeqAt.shaped d = true) (s2 : SeqAt.shaped (.list ds) = true) : isIn S v (.c n) = some (ds.any fun z => PyData.eqv z d) := by
  have e2 : rowOf S (.c n) = some ds := by
    show (match asD S (.c n) with | some (.list ds) => some ds | _ => none) = _
    rw [asD_c, e]
  have e : isIn S v (.c n) = (if SeqAt.shaped d = true ∧ SeqAt.shaped (.list ds) = true then some (ds.any fun z => PyData.eqv z d) else none) := by
    unfold isIn
    rw [asM_c, e]
    dsimp only
    split
    · rename_i q; cases q
    · rw [h, e2]
  rw [e, if_pos ⟨s1, s2⟩]
@[simp] theorem o_isN {v : Val} : gIsN v (.d .none) S = .ok (.d (.bool (isNone v))) S := by cases v <;> rfl
@[simp] theorem o_notN {v : Val} : gNotN v (.d .none) S = .ok (.d (.bool (!isNone v))) S := by cases v <;> rfl
/-- x[i] -/
@[simp] theorem o_ixT : gIx (.d (.tuple ds)) (.d (.int i)) S = (match atI ds i with | some d => .ok (.d d) S | none => .no) := (rfl)
@[simp] theorem o_ixL : gIx (.d (.list ds)) (.d (.int i)) S = (match atI ds i with | some d => .ok (.d d) S | none => .no) := (rfl)
@[simp] theorem o_ixZ : gIx (.z ds) (.d (.int i)) S = (match atI ds i with | some d => .ok (.d d) S | none => .no) := (rfl)
theorem o_ixC (h : S[n]? = some (.lst ds)) : gIx (.c n) (.d (.int i)) S = (match atI ds i with | some d => .ok (.d d) S | none => .no) := by
  show (match asM S (.c n) with | some ps => _ | none => _) = _
  rw [asM_c, h]
  show gIxS (.c n) i S = _
  unfold gIxS
  rw [seq_c, h]
  all_goals rfl
@[simp] theorem o_slT {lo hi : Option Int} : gSl (.d (.tuple ds)) lo hi S = .ok (.d (.tuple (cutD ds lo hi))) S := (rfl)
@[simp] theorem o_slL {lo hi : Option Int} : gSl (.d (.list ds)) lo hi S = .ok (.f (.lst (cutD ds lo hi))) S := (rfl)
@[simp] theorem o_slZ {lo hi : Option Int} : gSl (.z ds) lo hi S = .ok (.f (.lst (cutD ds lo hi))) S := (rfl)
theorem o_slC {lo hi : Option Int} (h : S[n]? = some (.lst ds)) : gSl (.c n) lo hi S = .ok (.f (.lst (cutD ds lo hi))) S := by
  unfold gSl
  rw [seq_c, h]
end
/-! ### loops -/
section
variable {α : Type} {ρ : Envi} {S : Sto} {s : Src} {bd : Bnd} {b : Ss} {enc : α → PyData}
theorem chk_pos {β : Type} {r : Res β} (h : GOk S s) : chk S s r = r := if_pos h
theorem gok_nil {ds : List PyData} : GOk S ⟨ds, []⟩ := fun p h => by cases h
theorem forGo_wp (I : List α → Envi → Sto → Prop) {xs : List α} {Q : Fw → Sto → Prop} (hg : ∀ pre ρ S, I pre ρ S → GOk S s)
    (step : ∀ pre x post ρ S, xs = pre ++ x :: post → I pre ρ S → ∃ ρ1, bd.go (enc x) ρ = some ρ1 ∧ wp (b ρ1 S) fun w S2 => match w with
      | .nx ρ2 => I (pre ++ [x]) ρ2 S2
      | .ct ρ2 => I (pre ++ [x]) ρ2 S2
      | .bk ρ2 => Q (.nx ρ2) S2
      | .rt v => Q (.rt v) S2)
    (done : ∀ ρ S, I xs ρ S → Q (.nx ρ) S) : ∀ (post pre : List α) (ρ : Envi) (S : Sto), xs = pre ++ post → I pre ρ S → wp (forGo s bd b (post.map enc) ρ S) Q
  | [], pre, ρ, S, e, h => by
    rw [List.append_nil] at e
    subst e
    show wp (chk S s (.ok (.nx ρ) S)) Q
    rw [chk_pos (hg _ _ _ h), wp_ok]
    exact done _ _ h
  | x :: post, pre, ρ, S, e, h => by
    obtain ⟨ρ1, h1, h2⟩ := step pre x post ρ S e h
    show wp (chk S s (match bd.go (enc x) ρ with
      | some ρ1 => (b ρ1 S).bind fun w S2 => match w with
        | .nx ρ2 => forGo s bd b (post.map enc) ρ2 S2
        | .ct ρ2 => forGo s bd b (post.map enc) ρ2 S2
        | .bk ρ2 => .ok (.nx ρ2) S2
        | .rt v => .ok (.rt v) S2
      | none => .no)) Q
    rw [chk_pos (hg _ _ _ h), h1]
    dsimp only
    rw [wp_bind]
    refine h2.mono fun w S2 q => ?_
    cases w with
    | nx ρ2 => exact forGo_wp I hg step done post (pre ++ [x]) ρ2 S2 (by rw [e]; simp) q
    | ct ρ2 => exact forGo_wp I hg step done post (pre ++ [x]) ρ2 S2 (by rw [e]; simp) q
    | bk ρ2 => rw [wp_ok]; exact q
    | rt v => rw [wp_ok]; exact q
/-- a loop over a row of data, by an invariant -/
theorem wp_for (I : List α → Envi → Sto → Prop) {src : SI} {S1 : Sto} (xs : List α) (enc : α → PyData) {Q : Fw → Sto → Prop} (hs : src ρ S = .ok s S1) (hi : s.items = xs.map enc) (hg : ∀ pre ρ S, I pre ρ S → GOk S s) (h0 : I [] ρ S1)
    (step : ∀ pre x post ρ S, xs = pre ++ x :: post → I pre ρ S → ∃ ρ1, bd.go (enc x) ρ = some ρ1 ∧ wp (b ρ1 S) fun w S2 => match w with
      | .nx ρ2 => I (pre ++ [x]) ρ2 S2
      | .ct ρ2 => I (pre ++ [x]) ρ2 S2
      | .bk ρ2 => Q (.nx ρ2) S2
      | .rt v => Q (.rt v) S2)
    (done : ∀ ρ S, I xs ρ S → Q (.nx ρ) S) : wp (sFo src bd b ρ S) Q := by
  show wp ((src ρ S).bind fun s S1 => forGo s bd b s.items ρ S1) Q
  rw [hs, bind_ok, hi]
  exact forGo_wp I hg step done xs [] ρ S1 rfl h0
theorem wp_while {c : SB} {b : Ss} {Q : Fw → Sto → Prop} (I : Nat → Envi → Sto → Prop)
    (step : ∀ m ρ S, I m ρ S → wp (c ρ S) fun k S1 => if k = true then wp (b ρ S1) (fun w S2 => match w with
      | .nx ρ2 => ∃ m', m' < m ∧ I m' ρ2 S2
      | .ct ρ2 => ∃ m', m' < m ∧ I m' ρ2 S2
      | .bk ρ2 => Q (.nx ρ2) S2
      | .rt v => Q (.rt v) S2) else Q (.nx ρ) S1) : ∀ (n m : Nat) (ρ : Envi) (S : Sto), m < n → I m ρ S → wp (sWhN c b n ρ S) Q
  | 0, m, ρ, S, h, _ => absurd h (Nat.not_lt_zero m)
  | n + 1, m, ρ, S, h, i => by
    show wp ((c ρ S).bind fun k S1 => if k = true then (b ρ S1).bind fun w S2 => (match w with
      | .nx ρ1 => sWhN c b n ρ1 S2
      | .ct ρ1 => sWhN c b n ρ1 S2
      | .bk ρ1 => .ok (.nx ρ1) S2
      | .rt v => .ok (.rt v) S2)
    else .ok (.nx ρ) S1) Q
    rw [wp_bind]
    refine (step m ρ S i).mono fun k S1 q => ?_
    cases k with
    | false => rw [if_neg Bool.false_ne_true] at q ⊢; rw [wp_ok]; exact q
    | true =>
      rw [if_pos rfl] at q ⊢
      rw [wp_bind]
      refine q.mono fun w S2 q => ?_
      cases w with
      | nx ρ2 => obtain ⟨m', h1, h2⟩ := q; exact wp_while I step n m' ρ2 S2 (by omega) h2
      | ct ρ2 => obtain ⟨m', h1, h2⟩ := q; exact wp_while I step n m' ρ2 S2 (by omega) h2
      | bk ρ2 => rw [wp_ok]; exact q
      | rt v => rw [wp_ok]; exact q
/-! ### comprehensions -/
theorem cGo_wp {t : SB} {e : Sx} (I : List α → List PyData → Sto → Prop) {xs : List α} {Q : List PyData → Sto → Prop} (hg : ∀ pre acc S, I pre acc S → GOk S s)
    (step : ∀ pre x post acc S, xs = pre ++ x :: post → I pre acc S → ∃ ρ1, bd.go (enc x) ρ = some ρ1 ∧ wp (t ρ1 S) fun k S1 => if k = true then wp (e ρ1 S1) (fun v S2 => ∃ y, v.th = .d y ∧ I (pre ++ [x]) (acc ++ [y]) S2) else I (pre ++ [x]) acc S1)
    (done : ∀ acc S, I xs acc S → Q acc S) : ∀ (post pre : List α) (acc : List PyData) (S : Sto), xs = pre ++ post → I pre acc S → wp (cGo s bd t e ρ (post.map enc) acc S) Q
  | [], pre, acc, S, eq, h => by
    rw [List.append_nil] at eq
    subst eq
    show wp (chk S s (.ok acc S)) Q
    rw [chk_pos (hg _ _ _ h), wp_ok]
    exact done _ _ h
  | x :: post, pre, acc, S, eq, h => by
    obtain ⟨ρ1, h1, h2⟩ := step pre x post acc S eq h
    show wp (chk S s (match bd.go (enc x) ρ with
      | some ρ1 => (t ρ1 S).bind fun k S1 => if k = true then (e ρ1 S1).bind fun v S2 => (match v.th with
          | .d y => cGo s bd t e ρ (post.map enc) (acc ++ [y]) S2
          | _ => .no)
        else cGo s bd t e ρ (post.map enc) acc S1
      | none => .no)) Q
    rw [chk_pos (hg _ _ _ h), h1]
    dsimp only
    rw [wp_bind]
    refine h2.mono fun k S1 q => ?_
    cases k with
    | false => exact cGo_wp I hg step done post (pre ++ [x]) acc S1 (by rw [eq]; simp) q
    | true =>
      rw [if_pos rfl] at q ⊢
      rw [wp_bind]
      refine q.mono fun v S2 ⟨y, hy, q⟩ => ?_
      rw [hy]
      exact cGo_wp I hg step done post (pre ++ [x]) (acc ++ [y]) S2 (by rw [eq]; simp) q
theorem wp_comp {src : SI} {t : SB} {e : Sx} {own : List Nat} {S1 : Sto} {Q : Val → Sto → Prop} (I : List α → List PyData → Sto → Prop) (xs : List α) (enc : α → PyData) (hs : src ρ S = .ok s S1) (hi : s.items = xs.map enc) (hl : xs.length ≤ sizeLine)
    (hg : ∀ pre acc S, I pre acc S → GOk S s) (h0 : I [] [] S1)
    (step : ∀ pre x post acc S, xs = pre ++ x :: post → I pre acc S → ∃ ρ1, bd.go (enc x) (wipeE ρ own) = some ρ1 ∧ wp (t ρ1 S) fun k S1 => if k = true then wp (e ρ1 S1) (fun v S2 => ∃ y, v.th = .d y ∧ I (pre ++ [x]) (acc ++ [y]) S2) else I (pre ++ [x]) acc S1)
    (done : ∀ acc S, I xs acc S → Q (.f (.lst acc)) S) : wp (evComp src bd t e own ρ S) Q := by
  show wp ((src ρ S).bind fun s S1 => if s.items.length ≤ sizeLine then (cGo s bd t e (wipeE ρ own) s.items [] S1).bind fun ds S2 => .ok (.f (.lst ds)) S2 else .no) Q
  rw [hs, bind_ok, hi, if_pos (by rw [List.length_map]; exact hl), wp_bind]
  exact cGo_wp I hg step (fun acc S q => by rw [wp_ok]; exact done acc S q) xs [] [] S1 rfl h0
theorem cGo_pure {t : SB} {e : Sx} (p : α → Bool) (F : α → PyData) (hg : GOk S s) : ∀ (xs : List α) (acc : List PyData)
    (h : ∀ x ∈ xs, ∃ ρ1, bd.go (enc x) ρ = some ρ1 ∧ t ρ1 S = .ok (p x) S ∧ (p x = true → ∃ v, e ρ1 S = .ok v S ∧ v.th = .d (F x))), cGo s bd t e ρ (xs.map enc) acc S = .ok (acc ++ (xs.filter p).map F) S
  | [], acc, h => by
    show chk S s (.ok acc S) = _
    rw [chk_pos hg]; simp
  | x :: xs, acc, h => by
    obtain ⟨ρ1, h1, h2, h3⟩ := h x (by simp)
    show chk S s (match bd.go (enc x) ρ with
      | some ρ1 => (t ρ1 S).bind fun k S1 => if k = true then (e ρ1 S1).bind fun v S2 => (match v.th with
          | .d y => cGo s bd t e ρ (xs.map enc) (acc ++ [y]) S2
          | _ => .no)
        else cGo s bd t e ρ (xs.map enc) acc S1
      | none => .no) = _
    rw [chk_pos hg, h1]
    dsimp only
    rw [h2, bind_ok]
    cases hp : p x with
    | false =>
      rw [if_neg Bool.false_ne_true, cGo_pure p F hg xs acc fun y hy => h y (List.mem_cons_of_mem _ hy)]
      simp [hp]
    | true =>
      obtain ⟨v, h4, h5⟩ := h3 hp
      rw [if_pos rfl, h4, bind_ok, h5]
      dsimp only
      rw [cGo_pure p F hg xs (acc ++ [F x]) fun y hy => h y (List.mem_cons_of_mem _ hy)]
      simp [hp]
theorem comp_pure {src : SI} {t : SB} {e : Sx} {own : List Nat} (xs : List α) (enc : α → PyData) (p : α → Bool) (F : α → PyData) (hs : src ρ S = .ok s S) (hi : s.items = xs.map enc) (hg : GOk S s) (hl : xs.length ≤ sizeLine)
    (h : ∀ x ∈ xs, ∃ ρ1, bd.go (enc x) (wipeE ρ own) = some ρ1 ∧ t ρ1 S = .ok (p x) S ∧ (p x = true → ∃ v, e ρ1 S = .ok v S ∧ v.th = .d (F x))) : evComp src bd t e own ρ S = .ok (.f (.lst ((xs.filter p).map F))) S := by
  show (src ρ S).bind (fun s S1 => if s.items.length ≤ sizeLine then (cGo s bd t e (wipeE ρ own) s.items [] S1).bind fun ds S2 => .ok (Val.f (.lst ds)) S2 else .no) = _
  rw [hs, bind_ok, hi, if_pos (by rw [List.length_map]; exact hl), cGo_pure p F hg xs [] h]
  simp
theorem comp_map {src : SI} {t : SB} {e : Sx} {own : List Nat} (xs : List α) (enc : α → PyData) (F : α → PyData) (hs : src ρ S = .ok s S) (hi : s.items = xs.map enc) (hg : GOk S s) (hl : xs.length ≤ sizeLine)
    (h : ∀ x ∈ xs, ∃ ρ1, bd.go (enc x) (wipeE ρ own) = some ρ1 ∧ t ρ1 S = .ok true S ∧ ∃ v, e ρ1 S = .ok v S ∧ v.th = .d (F x)) : evComp src bd t e own ρ S = .ok (.f (.lst (xs.map F))) S := by
  have z := comp_pure xs enc (fun _ => true) F hs hi hg hl fun x hx => by
    obtain ⟨ρ1, h1, h2, h3⟩ := h x hx
    exact ⟨ρ1, h1, h2, fun _ => h3⟩
  rw [z, List.filter_eq_self.mpr fun _ _ => rfl]
/-! the same, what follows a turn out of sight -/
theorem wp_forK (I : List α → Envi → Sto → Prop) {src : SI} {S1 : Sto} (xs : List α) (enc : α → PyData) {Q : Fw → Sto → Prop} (hs : src ρ S = .ok s S1) (hi : s.items = xs.map enc) (hg : ∀ pre ρ S, I pre ρ S → GOk S s) (h0 : I [] ρ S1)
    (step : ∀ pre x post ρ S, xs = pre ++ x :: post → I pre ρ S → ∃ ρ1, bd.go (enc x) ρ = some ρ1 ∧ ∀ K : Fw → Sto → Prop, (∀ ρ S, I (pre ++ [x]) ρ S → K (.nx ρ) S) → (∀ v S, Q (.rt v) S → K (.rt v) S) → wp (b ρ1 S) K)
    (done : ∀ ρ S, I xs ρ S → Q (.nx ρ) S) : wp (sFo src bd b ρ S) Q :=
  wp_for I xs enc hs hi hg h0 (fun pre x post ρ S e h => by
    obtain ⟨ρ1, h1, h2⟩ := step pre x post ρ S e h
    exact ⟨ρ1, h1, h2 _ (fun _ _ h => h) fun _ _ h => h⟩) done
theorem e_sFo {src : SI} : sFo src bd b ρ S = (src ρ S).bind fun s S1 => forGo s bd b s.items ρ S1 := (rfl)
theorem wp_goK (I : List α → Envi → Sto → Prop) {items : List PyData} (xs : List α) (enc : α → PyData) {Q : Fw → Sto → Prop} (hi : items = xs.map enc) (hg : ∀ pre ρ S, I pre ρ S → GOk S s) (h0 : I [] ρ S)
    (step : ∀ pre x post ρ S, xs = pre ++ x :: post → I pre ρ S → ∃ ρ1, bd.go (enc x) ρ = some ρ1 ∧ ∀ K : Fw → Sto → Prop, (∀ ρ S, I (pre ++ [x]) ρ S → K (.nx ρ) S) → (∀ v S, Q (.rt v) S → K (.rt v) S) → wp (b ρ1 S) K)
    (done : ∀ ρ S, I xs ρ S → Q (.nx ρ) S) : wp (forGo s bd b items ρ S) Q := by
  subst hi
  exact forGo_wp I hg (fun pre x post ρ S e h => by
    obtain ⟨ρ1, h1, h2⟩ := step pre x post ρ S e h
    exact ⟨ρ1, h1, h2 _ (fun _ _ h => h) fun _ _ h => h⟩) done xs [] ρ S rfl h0
theorem wp_forL (I : List α → Envi → Sto → Prop) {src : SI} {S1 : Sto} (xs : List α) (enc : α → PyData) {Q : Fw → Sto → Prop} (hs : src ρ S = .ok s S1) (hi : s.items = xs.map enc) (hg : ∀ pre ρ S, I pre ρ S → GOk S s) (h0 : I [] ρ S1)
    (step : ∀ pre x post ρ S, xs = pre ++ x :: post → I pre ρ S → ∃ ρ1, bd.go (enc x) ρ = some ρ1 ∧ ∀ K : Fw → Sto → Prop, (∀ ρ S, I (pre ++ [x]) ρ S → K (.nx ρ) S) → (∀ ρ S, I (pre ++ [x]) ρ S → K (.ct ρ) S) → (∀ ρ S, Q (.nx ρ) S → K (.bk ρ) S) → (∀ v S, Q (.rt v) S → K (.rt v) S) → wp (b ρ1 S) K)
    (done : ∀ ρ S, I xs ρ S → Q (.nx ρ) S) : wp (sFo src bd b ρ S) Q :=
  wp_for I xs enc hs hi hg h0 (fun pre x post ρ S e h => by
    obtain ⟨ρ1, h1, h2⟩ := step pre x post ρ S e h
    exact ⟨ρ1, h1, h2 _ (fun _ _ h => h) (fun _ _ h => h) (fun _ _ h => h) fun _ _ h => h⟩) done
theorem wp_whileK {c : SB} {b : Ss} {Q : Fw → Sto → Prop} (I : Nat → Envi → Sto → Prop)
    (step : ∀ m ρ S, I m ρ S → ∀ K : Bool → Sto → Prop, (∀ S1, (∀ K2 : Fw → Sto → Prop, (∀ m' ρ2 S2, m' < m → I m' ρ2 S2 → K2 (.nx ρ2) S2) → (∀ v S2, Q (.rt v) S2 → K2 (.rt v) S2) → wp (b ρ S1) K2) → K true S1) → (∀ S1, Q (.nx ρ) S1 → K false S1) → wp (c ρ S) K)
    (n m : Nat) (ρ : Envi) (S : Sto) (h : m < n) (i : I m ρ S) : wp (sWhN c b n ρ S) Q :=
  wp_while I (fun m ρ S h => step m ρ S h _ (fun S1 q => by
    rw [if_pos rfl]
    exact q _ (fun m' ρ2 S2 h1 h2 => ⟨m', h1, h2⟩) fun _ _ h => h) fun S1 q => by
    rw [if_neg Bool.false_ne_true]
    exact q) n m ρ S h i
theorem wp_compK {src : SI} {t : SB} {e : Sx} {own : List Nat} {S1 : Sto} {Q : Val → Sto → Prop} (I : List α → List PyData → Sto → Prop) (xs : List α) (enc : α → PyData) (hs : src ρ S = .ok s S1) (hi : s.items = xs.map enc) (hl : xs.length ≤ sizeLine)
    (hg : ∀ pre acc S, I pre acc S → GOk S s) (h0 : I [] [] S1)
    (step : ∀ pre x post acc S, xs = pre ++ x :: post → I pre acc S → ∃ ρ1, bd.go (enc x) (wipeE ρ own) = some ρ1 ∧ ∀ K : Bool → Sto → Prop,
      (∀ S1, (∀ K2 : Val → Sto → Prop, (∀ v S2 y, v.th = .d y → I (pre ++ [x]) (acc ++ [y]) S2 → K2 v S2) → wp (e ρ1 S1) K2) → K true S1) → (∀ S1, I (pre ++ [x]) acc S1 → K false S1) → wp (t ρ1 S) K)
    (done : ∀ acc S, I xs acc S → Q (.f (.lst acc)) S) : wp (evComp src bd t e own ρ S) Q :=
  wp_comp I xs enc hs hi hl hg h0 (fun pre x post acc S eq h => by
    obtain ⟨ρ1, h1, h2⟩ := step pre x post acc S eq h
    refine ⟨ρ1, h1, h2 _ (fun S1 q => ?_) fun S1 q => ?_⟩
    · rw [if_pos rfl]
      exact q _ fun v S2 y h3 h4 => ⟨y, h3, h4⟩
    · rw [if_neg Bool.false_ne_true]
      exact q) done
end
/-! ### one statement at a time: what follows is out of sight -/
section
variable {f g : Ss} {ρ : Envi} {S : Sto} {Q : Fw → Sto → Prop}
theorem wp_seq (h : ∀ K : Fw → Sto → Prop, (∀ ρ1 S1, wp (g ρ1 S1) Q → K (.nx ρ1) S1) → (∀ v S1, Q (.rt v) S1 → K (.rt v) S1) → wp (f ρ S) K) : wp (sSeq f g ρ S) Q := by
  rw [e_sSeq, wp_bind]
  refine h _ ?_ ?_
  · exact fun _ _ h => h
  · exact fun _ _ h => by rw [wp_ok]; exact h
theorem wp_seqN (h : ∀ K : Fw → Sto → Prop, (∀ ρ1 S1, wp (g ρ1 S1) Q → K (.nx ρ1) S1) → wp (f ρ S) K) : wp (sSeq f g ρ S) Q := by
  rw [e_sSeq, wp_bind]
  refine h _ ?_
  exact fun _ _ h => h
theorem wp_seqL (h : ∀ K : Fw → Sto → Prop, (∀ ρ1 S1, wp (g ρ1 S1) Q → K (.nx ρ1) S1) → (∀ v S1, Q (.rt v) S1 → K (.rt v) S1) → (∀ v S1, Q (.bk v) S1 → K (.bk v) S1) → (∀ v S1, Q (.ct v) S1 → K (.ct v) S1) → wp (f ρ S) K) : wp (sSeq f g ρ S) Q := by
  rw [e_sSeq, wp_bind]
  refine h _ ?_ ?_ ?_ ?_
  · exact fun _ _ h => h
  · exact fun _ _ h => by rw [wp_ok]; exact h
  · exact fun _ _ h => by rw [wp_ok]; exact h
  · exact fun _ _ h => by rw [wp_ok]; exact h
end
/-! ### defs -/
section
variable {np N : Nat} {body : Ss} {vs : List Val} {S : Sto}
theorem wp_fn {Q : Val → Sto → Prop} (hl : vs.length = np) (h : wp (body (vs.map some ++ List.replicate (N - np) none) S) fun w S1 => match w with
    | .nx _ => Q (.d .none) (S1.take S.length)
    | .rt v => wp (out S.length S1 v) Q
    | _ => False) : wp (mkFn np N body vs S) Q := by
  unfold mkFn
  rw [if_pos hl, wp_bind]
  refine h.mono fun w S1 q => ?_
  cases w with
  | nx ρ => rw [wp_ok]; exact q
  | rt v => exact q
  | bk ρ => exact q.elim
  | ct ρ => exact q.elim
theorem fn_eq {v : Val} {S' S1 : Sto} (hl : vs.length = np) (h : body (vs.map some ++ List.replicate (N - np) none) S = .ok (.rt v) S1) (ho : ∀ r : Res Val, out S.length S1 v = r → r = .ok v S') : mkFn np N body vs S = .ok v S' := by
  unfold mkFn
  rw [if_pos hl, h]
  exact ho _ rfl
@[simp] theorem out_d {n : Nat} {x : PyData} : out n S (.d x) = .ok (.d x) (S.take n) := (rfl)
@[simp] theorem out_f {n : Nat} {x : Cell} (h : x.lt n = true) : out n S (.f x) = .ok (.f x) (S.take n) := if_pos h
theorem wp_out_d {n : Nat} {x : PyData} {Q : Val → Sto → Prop} (h : Q (.d x) (S.take n)) : wp (out n S (.d x)) Q := by rw [out_d, wp_ok]; exact h
theorem wp_out_f {n : Nat} {x : Cell} {Q : Val → Sto → Prop} (h : Q (.f x) (S.take n)) (hl : x.lt n = true := by rfl) : wp (out n S (.f x)) Q := by rw [out_f hl, wp_ok]; exact h
theorem out_c {n j : Nat} {k : Cell} (h : ¬ j < n) (e : S[j]? = some k) (hl : k.lt n = true := by rfl) : out n S (.c j) = .ok (.f k) (S.take n) := by
  show (if j < n then _ else match S[j]? with | some k => _ | none => _) = _
  rw [if_neg h, e]
  exact if_pos hl
end
/-! ### the store: what stood before, and a def's own cells -/
section
variable {S L : Sto} {k : Cell} {i : Nat}
@[simp] theorem st_get : (S ++ L)[S.length + i]? = L[i]? := by rw [List.getElem?_append_right (Nat.le_add_right _ _), Nat.add_sub_cancel_left]
@[simp] theorem st_get0 : (S ++ k :: L)[S.length]? = some k := by simp
@[simp] theorem st_set : (S ++ L).set (S.length + i) k = S ++ L.set i k := by simp
@[simp] theorem st_set0 {k' : Cell} : (S ++ k' :: L).set S.length k = S ++ k :: L := by simp
@[simp] theorem st_take : (S ++ L).take S.length = S := by simp
end
end MV
set_option Elab.async false
set_option linter.all false
set_option maxRecDepth 100000
set_option maxHeartbeats 1000000
/-! Data of one form: what the operators say of them. -/
namespace MV
open PySem PySem.Spec PyProof.Rows L2
/-! ### forms -/
structure Enc {α : Type} (enc : α → PyData) (n : Nat) : Prop where
  eqv : ∀ a b, PyData.eqv (enc a) (enc b) = true ↔ a = b
  lay : ∀ a, (enc a).canLay0 = true
  dep : ∀ a, (enc a).depth ≤ n
section
variable {α β : Type} {enc : α → PyData} {en2 : β → PyData} {n m : Nat}
theorem eqv_map (h : ∀ a b, PyData.eqv (enc a) (enc b) = true ↔ a = b) : ∀ xs ys : List α, PyData.eqvAll (xs.map enc) (ys.map enc) = true ↔ xs = ys
  | [], [] => by simp [PyData.eqvAll]
  | [], _ :: _ => by simp [PyData.eqvAll]
  | _ :: _, [] => by simp [PyData.eqvAll]
  | x :: xs, y :: ys => by
    show PyData.eqvAll (enc x :: xs.map enc) (enc y :: ys.map enc) = true ↔ _
    rw [PyData.eqvAll, Bool.and_eq_true, h, eqv_map h xs ys, List.cons.injEq]
theorem lay_map (h : ∀ a, (enc a).canLay0 = true) : ∀ xs : List α, PyData.canLayAll0 (xs.map enc) = true
  | [] => by simp [PyData.canLayAll0]
  | x :: xs => by
    show PyData.canLayAll0 (enc x :: xs.map enc) = true
    rw [PyData.canLayAll0, h, lay_map h xs]; rfl
theorem dep_map (h : ∀ a, (enc a).depth ≤ n) : ∀ xs : List α, PyData.depthAll (xs.map enc) ≤ n
  | [] => by simp [PyData.depthAll]
  | x :: xs => by
    show PyData.depthAll (enc x :: xs.map enc) ≤ n
    rw [PyData.depthAll]
    exact Nat.max_le.mpr ⟨h x, dep_map h xs⟩
theorem encInt : Enc PyData.int 0 := ⟨fun a b => by simp [PyData.eqv], fun a => by simp [PyData.canLay0], fun a => by simp [PyData.depth]⟩
theorem encBool : Enc PyData.bool 0 := ⟨fun a b => by simp [PyData.eqv], fun a => by simp [PyData.canLay0], fun a => by simp [PyData.depth]⟩
theorem Enc.tup (h : Enc enc n) : Enc (fun xs : List α => PyData.tuple (xs.map enc)) (n + 1) := ⟨fun a b => by rw [PyData.eqv]; exact eqv_map h.eqv a b, fun a => by rw [PyData.canLay0]; exact lay_map h.lay a, fun a => by rw [PyData.depth]; have := dep_map h.dep a; omega⟩
theorem Enc.lst (h : Enc enc n) : Enc (fun xs : List α => PyData.list (xs.map enc)) (n + 1) := ⟨fun a b => by rw [PyData.eqv]; exact eqv_map h.eqv a b, fun a => by rw [PyData.canLay0]; exact lay_map h.lay a, fun a => by rw [PyData.depth]; have := dep_map h.dep a; omega⟩
theorem Enc.pair (h : Enc enc n) (k : Enc en2 m) : Enc (fun p : α × β => PyData.tuple [enc p.1, en2 p.2]) (max n m + 1) := ⟨fun a b => by
    rw [PyData.eqv, PyData.eqvAll, PyData.eqvAll, PyData.eqvAll, Bool.and_true, Bool.and_eq_true, h.eqv, k.eqv, Prod.ext_iff], fun a => by
    rw [PyData.canLay0, PyData.canLayAll0, PyData.canLayAll0, PyData.canLayAll0, h.lay, k.lay]; rfl, fun a => by
    rw [PyData.depth, PyData.depthAll, PyData.depthAll, PyData.depthAll]
    have := h.dep a.1
    have := k.dep a.2
    omega⟩
theorem Enc.comp {γ : Type} {f : γ → α} (h : Enc enc n) (hf : ∀ a b, f a = f b → a = b) : Enc (fun c => enc (f c)) n := ⟨fun a b => by rw [h.eqv]; exact ⟨hf a b, fun e => by rw [e]⟩, fun a => h.lay _, fun a => h.dep _⟩
theorem Enc.shaped (h : Enc enc n) (hn : n ≤ 64) (a : α) : SeqAt.shaped (enc a) = true := by
  unfold SeqAt.shaped
  rw [h.lay, Bool.true_and]
  exact decide_eq_true (Nat.le_trans (h.dep a) hn)
theorem Enc.inj (h : Enc enc n) {a b : α} (e : enc a = enc b) : a = b := (h.eqv a b).mp (by rw [e]; exact (h.eqv b b).mpr rfl)
theorem Enc.eqvD (h : Enc enc n) (a b : α) [Decidable (a = b)] : PyData.eqv (enc a) (enc b) = decide (a = b) := by
  rw [Bool.eq_iff_iff, h.eqv, decide_eq_true_iff]
theorem Enc.any (h : Enc enc n) (a : α) (xs : List α) [Decidable (a ∈ xs)] : ((xs.map enc).any fun z => PyData.eqv z (enc a)) = decide (a ∈ xs) := by
  rw [Bool.eq_iff_iff, List.any_eq_true, decide_eq_true_iff]
  constructor
  · rintro ⟨z, hz, e⟩
    obtain ⟨b, hb, rfl⟩ := List.mem_map.mp hz
    rw [(h.eqv b a).mp e] at hb; exact hb
  · exact fun m => ⟨enc a, List.mem_map_of_mem m, (h.eqv a a).mpr rfl⟩
variable {S : Sto}
theorem Enc.eq (h : Enc enc n) (a b : α) [Decidable (a = b)] (hn : n ≤ 64 := by decide) : gEq (.d (enc a)) (.d (enc b)) S = .ok (.d (.bool (decide (a = b)))) S := by
  rw [o_eq (x := enc a) (y := enc b) rfl rfl (h.shaped hn a) (h.shaped hn b), h.eqvD]
theorem Enc.ne (h : Enc enc n) (a b : α) [Decidable (a = b)] (hn : n ≤ 64 := by decide) : gNe (.d (enc a)) (.d (enc b)) S = .ok (.d (.bool (!decide (a = b)))) S := by
  rw [o_ne (x := enc a) (y := enc b) rfl rfl (h.shaped hn a) (h.shaped hn b), h.eqvD]
theorem Enc.inT (h : Enc enc n) (a : α) (xs : List α) [Decidable (a ∈ xs)] (hn : n + 1 ≤ 64 := by decide) : gIn (.d (enc a)) (.d (.tuple (xs.map enc))) S = .ok (.d (.bool (decide (a ∈ xs)))) S := by
  unfold gIn
  rw [o_inT (fun i => .inr trivial) (h.shaped (by omega) a) (h.lst.shaped hn xs), h.any]
theorem Enc.notInT (h : Enc enc n) (a : α) (xs : List α) [Decidable (a ∈ xs)] (hn : n + 1 ≤ 64 := by decide) : gNotIn (.d (enc a)) (.d (.tuple (xs.map enc))) S = .ok (.d (.bool (!decide (a ∈ xs)))) S := by
  unfold gNotIn
  rw [o_inT (fun i => .inr trivial) (h.shaped (by omega) a) (h.lst.shaped hn xs), h.any]
theorem Enc.inC (h : Enc enc n) (a : α) (xs : List α) [Decidable (a ∈ xs)] {i : Nat} (e : S[i]? = some (.lst (xs.map enc))) (hn : n + 1 ≤ 64 := by decide) : gIn (.d (enc a)) (.c i) S = .ok (.d (.bool (decide (a ∈ xs)))) S := by
  unfold gIn
  rw [o_inL rfl e (h.shaped (by omega) a) (h.lst.shaped hn xs), h.any]
theorem Enc.notInC (h : Enc enc n) (a : α) (xs : List α) [Decidable (a ∈ xs)] {i : Nat} (e : S[i]? = some (.lst (xs.map enc))) (hn : n + 1 ≤ 64 := by decide) : gNotIn (.d (enc a)) (.c i) S = .ok (.d (.bool (!decide (a ∈ xs)))) S := by
  unfold gNotIn
  rw [o_inL rfl e (h.shaped (by omega) a) (h.lst.shaped hn xs), h.any]
end
/-! ### webs -/
abbrev dI (ns : List Int) : List PyData := ns.map PyData.int
def pP (p : Int × Int) : PyData := .tuple [.int p.1, .int p.2]
abbrev dP (ps : List (Int × Int)) : List PyData := ps.map pP
abbrev Web := List Int × List (Int × Int)
def pT (ns : List Int) : PyData := .tuple (ns.map .int)
def pTs (ps : List (Int × Int)) : PyData := .tuple (ps.map pP)
def pW (W : Web) : PyData := .tuple [pT W.1, pTs W.2]
theorem encP : Enc pP 1 := encInt.pair encInt
theorem encT : Enc pT 1 := encInt.tup
theorem encTs : Enc pTs 2 := encP.tup
theorem encW : Enc pW 3 := encT.pair encTs
/-! ### built-ins -/
section
variable {S : Sto} {i j : Int} {ds es : List PyData} {n : Nat} {ns : List Int} {bs : List Bool} {b : Bool}
@[simp] theorem g_lenT : g1 fLen [.d (.tuple ds)] S = .ok (.d (.int ds.length)) S := (rfl)
@[simp] theorem g_lenL : g1 fLen [.d (.list ds)] S = .ok (.d (.int ds.length)) S := (rfl)
@[simp] theorem g_lenZ : g1 fLen [.z ds] S = .ok (.d (.int ds.length)) S := (rfl)
theorem g1_of {f : Sto → Val → Option PyData} {v : Val} {d : PyData} (h : f S v = some d) : g1 f [v] S = .ok (.d d) S := by
  unfold g1
  dsimp only
  rw [h]
theorem g_lenC (h : S[n]? = some (.lst ds)) : g1 fLen [.c n] S = .ok (.d (.int ds.length)) S := g1_of (by
  unfold fLen
  dsimp only
  rw [asM_c, seq_c, h])
theorem g_lenD {ps : List (PyData × PyData)} (h : S[n]? = some (.dic ps)) : g1 fLen [.c n] S = .ok (.d (.int ps.length)) S := g1_of (by
  unfold fLen
  dsimp only
  rw [asM_c, h])
@[simp] theorem g_tupT : g1 fTuple [.d (.tuple ds)] S = .ok (.d (.tuple ds)) S := (rfl)
@[simp] theorem g_tupL : g1 fTuple [.d (.list ds)] S = .ok (.d (.tuple ds)) S := (rfl)
@[simp] theorem g_tupZ : g1 fTuple [.z ds] S = .ok (.d (.tuple ds)) S := (rfl)
theorem g_tupC (h : S[n]? = some (.lst ds)) : g1 fTuple [.c n] S = .ok (.d (.tuple ds)) S := g1_of (by
  unfold fTuple
  rw [seq_c, h])
@[simp] theorem g_listT : gList [.d (.tuple ds)] S = .ok (.f (.lst ds)) S := (rfl)
@[simp] theorem g_listL : gList [.d (.list ds)] S = .ok (.f (.lst ds)) S := (rfl)
@[simp] theorem g_intB : g1 fInt [.d (.bool b)] S = .ok (.d (.int (if b = true then 1 else 0))) S := (rfl)
@[simp] theorem g_intI : g1 fInt [.d (.int i)] S = .ok (.d (.int i)) S := (rfl)
@[simp] theorem g_abs : g1 fAbs [.d (.int i)] S = .ok (.d (.int (if i < 0 then -i else i))) S := (rfl)
@[simp] theorem g_min2 : gMin [.d (.int i), .d (.int j)] S = .ok (.d (.int (if j < i then j else i))) S := (rfl)
@[simp] theorem g_max2 : gMax [.d (.int i), .d (.int j)] S = .ok (.d (.int (if j > i then j else i))) S := (rfl)
theorem g_all (h : ds = bs.map .bool) : g1 fAll [.d (.list ds)] S = .ok (.d (.bool (bs.all id))) S := g1_of (by
  subst h
  show (bolsOf (bs.map .bool)).map _ = _
  rw [bolsOf_map]; rfl)
theorem g_any (h : ds = bs.map .bool) : g1 fAny [.d (.list ds)] S = .ok (.d (.bool (bs.any id))) S := g1_of (by
  subst h
  show (bolsOf (bs.map .bool)).map _ = _
  rw [bolsOf_map]; rfl)
theorem o_pow (h : 0 ≤ j ∧ (Builtin.Int.intBits i : Int) * j ≤ 2 ^ 27) : gPow (.d (.int i)) (.d (.int j)) S = .ok (.d (.int (i ^ j.toNat))) S := by
  show (if decide _ = true then _ else _) = _
  rw [decide_eq_true h, if_pos rfl]
@[simp] theorem e_range1 (h1 : -4611686018427387904 ≤ j) (h2 : j < 4611686018427387904) : gRange1 [.d (.int j)] = some ⟨iota 0 j.toNat, []⟩ := if_pos ⟨by omega, by omega⟩
@[simp] theorem e_range2 (h1 : -4611686018427387904 ≤ j) (h2 : j < 4611686018427387904) (h3 : -4611686018427387904 ≤ i) (h4 : i < 4611686018427387904) : gRange2 [.d (.int i), .d (.int j)] = some ⟨iota i (j - i).toNat, []⟩ := if_pos ⟨by omega, by omega, by omega, by omega⟩
theorem iota_map (lo : Int) (n : Nat) : iota lo n = (List.range n).map fun (i : Nat) => PyData.int (lo + i) := rfl
/-! sorted -/
def isort (ns : List Int) : List Int := ns.mergeSort fun a b => decide (a ≤ b)
def pleB (p q : Int × Int) : Bool := decide (p.1 < q.1 ∨ (p.1 = q.1 ∧ p.2 ≤ q.2))
def psort (ps : List (Int × Int)) : List (Int × Int) := ps.mergeSort pleB
theorem sortD_map {α : Type} {enc : α → PyData} {le : α → α → Bool} (h : ∀ a b, PySem.W.dataLe false id (enc a) (enc b) = le a b) (xs : List α) : sortD (xs.map enc) = (xs.mergeSort le).map enc := by
  unfold sortD
  rw [List.map_mergeSort]
  exact fun a _ b _ => (h a b).symm
theorem sorted_of {α : Type} {enc : α → PyData} {le : α → α → Bool} {k : Nat} (E : Enc enc k) (hk : k ≤ 64) (h : ∀ a b, PySem.W.dataLe false id (enc a) (enc b) = le a b) (xs : List α) (al : ∀ a b, PySem.W.alike (enc a) (enc b) = true) (so : PySem.W.Sortable (xs.map enc)) (hl : xs.length ≤ sizeLine)
    {v : Val} {t : Bool} {g : List (Nat × List PyData)} (hv : seqOf S v = some (t, xs.map enc, g)) : gSorted [v] S = .ok (.f (.lst ((xs.mergeSort le).map enc))) S := by
  unfold gSorted
  dsimp only
  rw [hv]
  dsimp only
  rw [if_pos, sortD_map h]
  refine ⟨.of al, so, by rw [List.length_map]; exact hl, fun d hd => ?_⟩
  obtain ⟨a, _, rfl⟩ := List.mem_map.mp hd
  exact E.shaped hk a
theorem sorted_int {v : Val} {t : Bool} {g : List (Nat × List PyData)} (hv : seqOf S v = some (t, dI ns, g)) (hl : ns.length ≤ sizeLine) : gSorted [v] S = .ok (.f (.lst (dI (isort ns)))) S :=
  sorted_of encInt (by decide) (le := fun a b => decide (a ≤ b)) (fun a b => congrFun (congrFun (PySem.W.dataLe_int (β := Int) id) a) b) ns (fun a b => by simp [PySem.W.alike]) (.others fun b => ⟨by simp, by simp⟩) hl hv
theorem sorted_pair {ps : List (Int × Int)} {v : Val} {t : Bool} {g : List (Nat × List PyData)} (hv : seqOf S v = some (t, dP ps, g)) (hl : ps.length ≤ sizeLine) : gSorted [v] S = .ok (.f (.lst (dP (psort ps)))) S :=
  sorted_of encP (by decide) (le := pleB) (fun a b => congrFun (congrFun (PySem.W.dataLe_ii (β := Int × Int) (·.1) (·.2)) a) b) ps (fun a b => by simp [pP, PySem.W.alike, PySem.W.alikeAll]) (.tuples fun b => ⟨_, _, rfl⟩) hl hv
theorem isort_perm (ns : List Int) : (isort ns).Perm ns := List.mergeSort_perm _ _
theorem psort_perm (ns : List (Int × Int)) : (psort ns).Perm ns := List.mergeSort_perm _ _
theorem isort_le (ns : List Int) : (isort ns).Pairwise (· ≤ ·) := by
  have h := List.pairwise_mergeSort (le := fun (a b : Int) => decide (a ≤ b)) (fun a b c h1 h2 => by simp at h1 h2 ⊢; omega) (fun a b => by simp; omega) ns
  exact h.imp fun h => by simpa using h
theorem ple_trans (a b c : Int × Int) (h1 : pleB a b = true) (h2 : pleB b c = true) : pleB a c = true := by
  unfold pleB at *
  simp only [decide_eq_true_eq] at *
  omega
theorem ple_total (a b : Int × Int) : (pleB a b || pleB b a) = true := by
  unfold pleB
  simp only [Bool.or_eq_true, decide_eq_true_eq]
  omega
theorem psort_le (ns : List (Int × Int)) : (psort ns).Pairwise (fun a b => pleB a b = true) := List.pairwise_mergeSort ple_trans ple_total ns
@[simp] theorem mem_isort {a : Int} : a ∈ isort ns ↔ a ∈ ns := (isort_perm ns).mem_iff
@[simp] theorem mem_psort {a : Int × Int} {ps : List (Int × Int)} : a ∈ psort ps ↔ a ∈ ps := (psort_perm ps).mem_iff
@[simp] theorem isort_length : (isort ns).length = ns.length := (isort_perm ns).length_eq
@[simp] theorem psort_length {ps : List (Int × Int)} : (psort ps).length = ps.length := (psort_perm ps).length_eq
/-! rising -/
abbrev Rise (ns : List Int) : Prop := ns.Pairwise (· < ·)
def pLt (p q : Int × Int) : Prop := p.1 < q.1 ∨ (p.1 = q.1 ∧ p.2 < q.2)
abbrev RiseP (ps : List (Int × Int)) : Prop := ps.Pairwise pLt
theorem rise_ext {xs ys : List Int} (hx : Rise xs) (hy : Rise ys) (h : ∀ a, a ∈ xs ↔ a ∈ ys) : xs = ys := by
  refine List.Perm.eq_of_pairwise (le := (· < ·)) (fun a b _ _ h1 h2 => by omega) hx hy ?_
  exact (List.perm_ext_iff_of_nodup (hx.imp fun h => by omega) (hy.imp fun h => by omega)).mpr h
theorem risep_ext {xs ys : List (Int × Int)} (hx : RiseP xs) (hy : RiseP ys) (h : ∀ a, a ∈ xs ↔ a ∈ ys) : xs = ys := by
  refine List.Perm.eq_of_pairwise (le := pLt) (fun a b _ _ h1 h2 => by unfold pLt at h1 h2; omega) hx hy ?_
  exact (List.perm_ext_iff_of_nodup (hx.imp fun h e => by subst e; unfold pLt at h; omega) (hy.imp fun h e => by subst e; unfold pLt at h; omega)).mpr h
theorem isort_rise (h : ns.Nodup) : Rise (isort ns) := by
  have h1 := isort_le ns
  have h2 : (isort ns).Nodup := (isort_perm ns).nodup_iff.mpr h
  exact (h1.and h2).imp fun ⟨h, h'⟩ => by omega
theorem psort_rise {ps : List (Int × Int)} (h : ps.Nodup) : RiseP (psort ps) := by
  have h1 := psort_le ps
  have h2 : (psort ps).Nodup := (psort_perm ps).nodup_iff.mpr h
  refine (h1.and h2).imp fun {a b} ⟨h, h'⟩ => ?_
  unfold pleB at h
  unfold pLt
  simp only [decide_eq_true_eq] at h
  rcases h with h | h
  · exact .inl h
  · refine .inr ⟨h.1, ?_⟩
    have : a.2 ≠ b.2 := fun e => h' (Prod.ext h.1 e)
    omega
theorem Rise.nodup (h : Rise ns) : ns.Nodup := h.imp fun h => by omega
theorem isort_of_rise (h : Rise ns) : isort ns = ns := rise_ext (isort_rise h.nodup) h fun a => mem_isort
theorem RiseP.nodup {ps : List (Int × Int)} (h : RiseP ps) : ps.Nodup := h.imp fun h e => by subst e; unfold pLt at h; omega
theorem psort_of_rise {ps : List (Int × Int)} (h : RiseP ps) : psort ps = ps := risep_ext (psort_rise h.nodup) h fun a => mem_psort
end
/-! ### what a web is -/
structure IsWeb (W : Web) : Prop where
  rp : Rise W.1
  rt : RiseP W.2
  lo : ∀ a ∈ W.1, 0 ≤ a ∧ a ≤ 99
  lt : ∀ t ∈ W.2, t.1 < t.2 ∧ t.1 ∈ W.1 ∧ t.2 ∈ W.1
/-! ### stores into cells, cuts -/
section
variable {S : Sto} {n : Nat} {ds : List PyData}
theorem put_c {k : Int} {j : Nat} {y : PyData} (h : S[n]? = some (.lst ds)) (hk : ixN ds.length k = some j) : gPut (.c n) (.d (.int k)) (.d y) S = some (S.set n (.lst (ds.set j y))) := by
  unfold gPut
  dsimp only
  rw [h]
  dsimp only
  rw [hk]
theorem put_dic {ps : List (PyData × PyData)} {z y : PyData} {k : Key} (h : S[n]? = some (.dic ps)) (hz : kOf z = some k) (hl : ps.length < sizeLine) : gPut (.c n) (.d z) (.d y) S = some (S.set n (.dic (putD ps k y))) := by
  unfold gPut
  dsimp only
  rw [h]
  dsimp only
  rw [hz]
  dsimp only
  rw [if_pos hl]
theorem app_c {y : PyData} (h : S[n]? = some (.lst ds)) (hl : ds.length < sizeLine) : gAppend (.c n) [.d y] S = .ok (.d .none) (S.set n (.lst (ds ++ [y]))) := by
  unfold gAppend cellL
  dsimp only
  rw [h]
  dsimp only
  rw [if_pos hl]
theorem ext_c {w : Val} {es : List PyData} (h : S[n]? = some (.lst ds)) (hw : asL S w = some es) (hl : ds.length + es.length ≤ sizeLine) : gExtend (.c n) [w] S = .ok (.d .none) (S.set n (.lst (ds ++ es))) := by
  unfold gExtend cellL
  dsimp only
  rw [h]
  dsimp only
  rw [hw]
  dsimp only
  rw [if_pos hl]
theorem ty_list (h : S[n]? = some (.lst ds)) : tyB "list" S (.c n) = true := by
  unfold tyB
  rw [asL_c, h]
  rfl
theorem ty_dict {ps : List (PyData × PyData)} (h : S[n]? = some (.dic ps)) : tyB "dict" S (.c n) = true := by
  unfold tyB
  rw [asM_c, h]
  simp
theorem cut_to {k : Int} (h : 0 ≤ k) : cutD ds none (some k) = ds.take k.toNat := by
  unfold cutD
  rw [HT.sIx_none]
  show (ds.drop 0).take ((if k < 0 then _ else min k.toNat ds.length) - 0) = _
  rw [if_neg (by omega), List.drop_zero, Nat.sub_zero]
  rcases Nat.le_total k.toNat ds.length with q | q
  · rw [Nat.min_eq_left q]
  · rw [Nat.min_eq_right q, List.take_length, List.take_of_length_le q]
theorem cut_from {k : Int} (h : 0 ≤ k) : cutD ds (some k) none = ds.drop k.toNat := by
  unfold cutD
  rw [HT.sIx_none]
  show (ds.drop (if k < 0 then _ else min k.toNat ds.length)).take (ds.length - (if k < 0 then _ else min k.toNat ds.length)) = _
  rw [if_neg (by omega)]
  rcases Nat.le_total k.toNat ds.length with q | q
  · rw [Nat.min_eq_left q, List.take_of_length_le (by simp)]
  · rw [Nat.min_eq_right q, List.drop_length, List.drop_of_length_le q]; simp
theorem at_nat {α : Type} {xs : List α} {i : Int} {x : α} (h : 0 ≤ i) (e : xs[i.toNat]? = some x) : atI xs i = some x := by
  have hl := (List.getElem?_eq_some_iff.mp e).1
  unfold atI ixN
  rw [if_pos h, if_pos (by omega)]
  exact e
theorem st_upd {k k' : Cell} (h : S[n]? = some k) : (S.set n k')[n]? = some k' := by
  rw [List.getElem?_set_self (List.getElem?_eq_some_iff.mp h).1]
theorem st_self {k : Cell} (h : S[n]? = some k) : S.set n k = S := by
  obtain ⟨h1, h2⟩ := List.getElem?_eq_some_iff.mp h
  rw [← h2, List.set_getElem_self]
theorem st_lt {k : Cell} (h : S[n]? = some k) : n < S.length := (List.getElem?_eq_some_iff.mp h).1
end
/-! a cell of three -/
section
variable {S : Sto} {n : Nat} {x y z w : PyData}
@[simp] theorem at_0 {r : List PyData} : atI (x :: r) 0 = some x := by
  unfold atI ixN
  rw [if_pos (by decide), if_pos (by simp only [List.length_cons]; omega)]; rfl
@[simp] theorem at_1 {r : List PyData} : atI (x :: y :: r) 1 = some y := by
  unfold atI ixN
  rw [if_pos (by decide), if_pos (by simp only [List.length_cons]; omega)]; rfl
@[simp] theorem at_2 {r : List PyData} : atI (x :: y :: z :: r) 2 = some z := by
  unfold atI ixN
  rw [if_pos (by decide), if_pos (by simp only [List.length_cons]; omega)]; rfl
theorem put3_0 (h : S[n]? = some (.lst [x, y, z])) : gPut (.c n) (.d (.int 0)) (.d w) S = some (S.set n (.lst [w, y, z])) := put_c (j := 0) h rfl
theorem put3_1 (h : S[n]? = some (.lst [x, y, z])) : gPut (.c n) (.d (.int 1)) (.d w) S = some (S.set n (.lst [x, w, z])) := put_c (j := 1) h rfl
theorem put3_2 (h : S[n]? = some (.lst [x, y, z])) : gPut (.c n) (.d (.int 2)) (.d w) S = some (S.set n (.lst [x, y, w])) := put_c (j := 2) h rfl
theorem log_lt {m : Int} (hm : 0 < m) (hm2 : m < 2 ^ 60) : m.natAbs.log2 < 9000 := by
  have h3 : m.natAbs.log2 < 60 := (Nat.log2_lt (by omega)).mpr (by omega)
  omega
theorem mod_in (x m : Int) (h : 0 < m) : 0 ≤ x % m ∧ x % m < m := ⟨Int.emod_nonneg _ (by omega), Int.emod_lt_of_pos _ h⟩
end
/-! a list that is written, at an open place; a cell among a def's own -/
theorem at_ex {xs : List Int} {r : Int} (h0 : 0 ≤ r) (h1 : r < xs.length) : ∃ y ∈ xs, atI (dI xs) r = some (.int y) := by
  have h : r.toNat < xs.length := by omega
  exact ⟨xs[r.toNat], List.getElem_mem h, at_nat h0 (by rw [List.getElem?_map, List.getElem?_eq_getElem h]; rfl)⟩
section
variable {S L : Sto} {n : Nat} {x : Cell}
@[simp] theorem st_take2 : ((S.set n x) ++ L).take S.length = S.set n x := List.take_left' (by simp)
@[simp] theorem st_take3 : (S.set n x).take S.length = S.set n x := List.take_of_length_le (by simp)
theorem st_own (h : n < S.length) : ((S.set n x) ++ L)[n]? = some x := by
  rw [List.getElem?_append_left (by simpa using h), List.getElem?_set_self h]
theorem st_loc {k : Cell} : ((S.set n x) ++ k :: L)[S.length]? = some k := by
  rw [List.getElem?_append_right (by simp)]; simp
theorem st_loc1 {k k1 : Cell} : ((S.set n x) ++ k1 :: k :: L)[S.length + 1]? = some k := by
  rw [List.getElem?_append_right (by simp)]; simp
theorem st_set_own {y : Cell} (h : n < S.length) : ((S.set n x) ++ L).set n y = (S.set n y) ++ L := by
  rw [List.set_append_left _ _ (by simpa using h), List.set_set]
theorem st_set_loc {k y : Cell} : ((S.set n x) ++ k :: L).set S.length y = (S.set n x) ++ y :: L := by
  rw [List.set_append_right _ _ (by simp)]; simp
theorem st_set_loc1 {k y k1 : Cell} : ((S.set n x) ++ k1 :: k :: L).set (S.length + 1) y = (S.set n x) ++ k1 :: y :: L := by
  rw [List.set_append_right _ _ (by simp)]; simp
end
/-! webs, rows of numbers, of pairs: read -/
section
variable {S : Sto} {W : Web} {ns : List Int} {ps : List (Int × Int)} {p : Int × Int} {ρ : Envi} {bs : List Bnd}
@[simp] theorem ix_W0 : gIx (.d (pW W)) (.d (.int 0)) S = .ok (.d (pT W.1)) S := (rfl)
@[simp] theorem ix_W1 : gIx (.d (pW W)) (.d (.int 1)) S = .ok (.d (pTs W.2)) S := (rfl)
@[simp] theorem ix_P0 : gIx (.d (pP p)) (.d (.int 0)) S = .ok (.d (.int p.1)) S := (rfl)
@[simp] theorem ix_P1 : gIx (.d (pP p)) (.d (.int 1)) S = .ok (.d (.int p.2)) S := (rfl)
@[simp] theorem seq_T : seqOf S (.d (pT ns)) = some (true, dI ns, []) := (rfl)
@[simp] theorem seq_Ts : seqOf S (.d (pTs ps)) = some (true, dP ps, []) := (rfl)
@[simp] theorem seq_W : seqOf S (.d (pW W)) = some (true, [pT W.1, pTs W.2], []) := (rfl)
@[simp] theorem seq_P : seqOf S (.d (pP p)) = some (true, [.int p.1, .int p.2], []) := (rfl)
@[simp] theorem len_T : g1 fLen [.d (pT ns)] S = .ok (.d (.int ns.length)) S := by show g1 fLen [.d (.tuple (dI ns))] S = _; simp
@[simp] theorem len_Ts : g1 fLen [.d (pTs ps)] S = .ok (.d (.int ps.length)) S := by show g1 fLen [.d (.tuple (dP ps))] S = _; simp
@[simp] theorem len_P : g1 fLen [.d (pP p)] S = .ok (.d (.int 2)) S := (rfl)
@[simp] theorem len_W : g1 fLen [.d (pW W)] S = .ok (.d (.int 2)) S := (rfl)
@[simp] theorem list_T : gList [.d (pT ns)] S = .ok (.f (.lst (dI ns))) S := (rfl)
@[simp] theorem tup_T : g1 fTuple [.d (pT ns)] S = .ok (.d (pT ns)) S := (rfl)
@[simp] theorem tup_I : g1 fTuple [.d (.list (dI ns))] S = .ok (.d (pT ns)) S := (rfl)
@[simp] theorem tup_Ps : g1 fTuple [.d (.list (dP ps))] S = .ok (.d (pTs ps)) S := (rfl)
theorem fold_T : PyData.tuple (dI ns) = pT ns := rfl
theorem fold_Ts : PyData.tuple (dP ps) = pTs ps := rfl
theorem fold_W {ns : List Int} : PyData.tuple [pT ns, pTs ps] = pW (ns, ps) := rfl
theorem fold_P {a b : Int} : PyData.tuple [.int a, .int b] = pP (a, b) := rfl
@[simp] theorem go_P : (bTup bs).go (pP p) ρ = goL bs [.int p.1, .int p.2] ρ := (rfl)
@[simp] theorem go_W : (bTup bs).go (pW W) ρ = goL bs [pT W.1, pTs W.2] ρ := (rfl)
end
/-! ### texts of things -/
theorem repr_of {S : Sto} {v : Val} {d : PyData} (h : asD S v = some d) (c : d.canLay0 = true ∧ d.showable = true ∧ d.shown.length ≤ sizeLine ∧ d.depth ≤ 64) : gRepr [v] S = .ok (.d (.str d.shown)) S := by
  unfold gRepr
  dsimp only
  rw [h]
  dsimp only
  rw [if_pos c]
/-- data whose text is short: whole numbers near 0, tuples of these -/
def Txt (d : PyData) (n : Nat) : Prop := d.showable = true ∧ d.leavesShort 13 = true ∧ d.bulk ≤ n
theorem txt_int {i : Int} (h : -1000 ≤ i ∧ i ≤ 1000) : Txt (.int i) 0 := by
  have key : ∀ k : Fin 2001, decide (((PyData.int ((k.val : Int) - 1000)).shown).length ≤ 13) = true := by decide +kernel
  have e := key ⟨(i + 1000).toNat, by omega⟩
  have e2 : (((i + 1000).toNat : Nat) : Int) - 1000 = i := by omega
  dsimp only at e
  rw [e2] at e
  refine ⟨?_, ?_, by simp [PyData.bulk]⟩
  · rw [PyData.showable]
    have h3 : i.natAbs.log2 < 1920 := by
      rcases Nat.eq_zero_or_pos i.natAbs with z | z
      · rw [z]; decide
      · exact (Nat.log2_lt (by omega)).mpr (Nat.lt_of_lt_of_le (show i.natAbs < 2 ^ 10 by omega) (Nat.pow_le_pow_right (by decide) (by decide)))
    exact decide_eq_true h3
  · rw [PyData.leavesShort]; exact e
theorem txt_all {α : Type} {enc : α → PyData} {n : Nat} : ∀ {xs : List α}, (∀ x ∈ xs, Txt (enc x) n) → PyData.showableAll (xs.map enc) = true ∧ PyData.leavesShortAll 13 (xs.map enc) = true ∧ PyData.bulkAll (xs.map enc) ≤ (n + 1) * xs.length
  | [], _ => by simp [PyData.showableAll, PyData.leavesShortAll, PyData.bulkAll]
  | x :: xs, h => by
    obtain ⟨a1, a2, a3⟩ := h x (by simp)
    obtain ⟨b1, b2, b3⟩ := txt_all (xs := xs) fun y hy => h y (List.mem_cons_of_mem _ hy)
    simp only [List.map_cons, PyData.showableAll, PyData.leavesShortAll, PyData.bulkAll, a1, a2, b1, b2, List.length_cons, Nat.mul_add]
    exact ⟨rfl, rfl, by omega⟩
theorem txt_tup {α : Type} {enc : α → PyData} {n : Nat} {xs : List α} (h : ∀ x ∈ xs, Txt (enc x) n) : Txt (.tuple (xs.map enc)) ((n + 1) * xs.length) := by
  obtain ⟨a1, a2, a3⟩ := txt_all h
  exact ⟨by rw [PyData.showable]; exact a1, by rw [PyData.leavesShort]; exact a2, by rw [PyData.bulk]; exact a3⟩
theorem txt_P {p : Int × Int} (h : -1000 ≤ p.1 ∧ p.1 ≤ 1000) (k : -1000 ≤ p.2 ∧ p.2 ≤ 1000) : Txt (pP p) 2 := by
  have z := txt_tup (enc := PyData.int) (n := 0) (xs := [p.1, p.2]) (fun x hx => by
    simp at hx
    rcases hx with rfl | rfl
    · exact txt_int h
    · exact txt_int k)
  exact z
theorem Txt.fits {d : PyData} {n : Nat} (h : Txt d n) (hn : n ≤ 2 ^ 20) : d.showable = true ∧ d.shown.length ≤ sizeLine := ⟨h.1, PyData.shown_fits_bulk (B := 13) (by decide) (by decide) h.2.1 (Nat.le_trans h.2.2 hn)⟩
theorem repr_Ts {S : Sto} {ps : List (Int × Int)} (h : ∀ p ∈ ps, (-1000 ≤ p.1 ∧ p.1 ≤ 1000) ∧ -1000 ≤ p.2 ∧ p.2 ≤ 1000) (hl : ps.length ≤ 1000) : gRepr [.d (pTs ps)] S = .ok (.d (.str (pTs ps).shown)) S := by
  have t : Txt (pTs ps) _ := txt_tup (enc := pP) (n := 2) fun p hp => txt_P (h p hp).1 (h p hp).2
  have f := t.fits (by omega)
  exact repr_of rfl ⟨encTs.lay ps, f.1, f.2, Nat.le_trans (encTs.dep ps) (by decide)⟩
theorem map_erase {α β : Type} (f : α → β) : ∀ (xs : List α) (k : Nat), (xs.map f).eraseIdx k = (xs.eraseIdx k).map f
  | [], _ => by simp
  | _ :: _, 0 => by simp
  | x :: xs, k + 1 => by simp [map_erase f xs k]
theorem erase_perm {α : Type} : ∀ (xs : List α) (k : Nat) (h : k < xs.length), (xs[k] :: xs.eraseIdx k).Perm xs
  | [], _, h => absurd h (Nat.not_lt_zero _)
  | _ :: _, 0, _ => by simp
  | x :: xs, k + 1, h => by
    have q := erase_perm xs k (by simpa using h)
    simp
    exact (List.Perm.swap _ _ _).trans (q.cons x)
end MV
set_option Elab.async false
set_option linter.all false
set_option maxRecDepth 100000
set_option maxHeartbeats 1000000
/-! The constructs of MvL evaluated. -/
namespace MV
open PySem PySem.Spec PyProof.Rows L2
section
variable {ρ : Envi} {S : Sto} {f g : Sx} {a : SA} {d : SD}
@[simp] theorem e_dNil : dNil ρ S = .ok [] S := (rfl)
@[simp] theorem e_dCons : dCons f g d ρ S = (f ρ S).bind fun v S1 => (g ρ S1).bind fun w S2 => (d ρ S2).bind fun r S3 => (match v.th, w.th with
  | .d x, .d y => match kOf x with
    | some k => .ok ((k, y) :: r) S3
    | none => .no
  | _, _ => .no) := (rfl)
@[simp] theorem e_Dic : evDic d ρ S = (d ρ S).bind fun qs S1 => if qs.length ≤ 15 then .ok (.f (.dic (putAll [] qs))) S1 else .no := (rfl)
@[simp] theorem e_Dic0 : evDic0 ρ S = .ok (.f (.dic [])) S := (rfl)
@[simp] theorem e_TupleRange : evTupleRange a ρ S = (a ρ S).bind fun vs S1 => (match vs with
  | [.d (.int b)] => if rgOk 0 b = true then .ok (.d (.tuple (rgD 0 b))) S1 else .no
  | [.d (.int a), .d (.int b)] => if rgOk a b = true then .ok (.d (.tuple (rgD a b))) S1 else .no
  | _ => .no) := (rfl)
@[simp] theorem e_ListRange : evListRange a ρ S = (a ρ S).bind fun vs S1 => (match vs with
  | [.d (.int b)] => if rgOk 0 b = true then .ok (.f (.lst (rgD 0 b))) S1 else .no
  | [.d (.int a), .d (.int b)] => if rgOk a b = true then .ok (.f (.lst (rgD a b))) S1 else .no
  | _ => .no) := (rfl)
@[simp] theorem kOf_int {i : Int} : kOf (.int i) = some (.inl i) := (rfl)
@[simp] theorem kD_inl {i : Int} : kD (.inl i) = .int i := (rfl)
end
/-! ### dicts whose keys are whole numbers -/
/-- a dict of numbers to data, as its entries stand -/
def dK (kvs : List (Int × PyData)) : List (PyData × PyData) := kvs.map fun p => (.int p.1, p.2)
theorem look_dK (k : Int) : ∀ kvs : List (Int × PyData), look (dK kvs) (.inl k) = (kvs.find? fun p => p.1 == k).map (·.2)
  | [] => rfl
  | (j, y) :: r => by
    have ih := look_dK k r
    unfold dK look at ih ⊢
    rw [List.map_cons, List.find?_cons, List.find?_cons]
    by_cases e : j = k
    · subst e; simp [kOf]
    · have e1 : decide (kOf (PyData.int j) = some (Sum.inl k)) = false := by
        refine decide_eq_false fun h => e ?_
        rw [kOf_int] at h; exact Sum.inl.inj (Option.some.inj h)
      have e2 : (j == k) = false := by simpa using e
      simp only [e1, e2]
      exact ih
def hasK (kvs : List (Int × PyData)) (k : Int) : Bool := kvs.any fun p => p.1 == k
def putK1 (kvs : List (Int × PyData)) (k : Int) (y : PyData) : List (Int × PyData) := if hasK kvs k = true then kvs.map fun p => if p.1 = k then (p.1, y) else p else kvs ++ [(k, y)]
theorem look_has (k : Int) (kvs : List (Int × PyData)) : (look (dK kvs) (.inl k)).isSome = hasK kvs k := by
  rw [look_dK]
  unfold hasK
  induction kvs with
  | nil => rfl
  | cons p r ih =>
    rw [List.find?_cons, List.any_cons]
    cases h : p.1 == k with
    | true => simp
    | false => simpa using ih
theorem putD_dK (k : Int) (y : PyData) (kvs : List (Int × PyData)) : putD (dK kvs) (.inl k) y = dK (putK1 kvs k y) := by
  unfold putD putK1
  rw [look_has]
  split
  · unfold dK
    rw [List.map_map, List.map_map]
    refine List.map_congr_left fun p _ => ?_
    simp only [Function.comp, kOf_int, Option.some.injEq, Sum.inl.injEq]
    split <;> rfl
  · unfold dK
    rw [List.map_append]
    rfl
theorem putAll_dK : ∀ (ks : List Int) (ys : List PyData) (kvs : List (Int × PyData)), putAll (dK kvs) ((ks.map Sum.inl).zip ys) = dK ((ks.zip ys).foldl (fun acc p => putK1 acc p.1 p.2) kvs)
  | [], _, _ => by simp [putAll]
  | _ :: _, [], _ => by simp [putAll]
  | k :: ks, y :: ys, kvs => by
    rw [List.map_cons, List.zip_cons_cons, List.zip_cons_cons, List.foldl_cons]
    show putAll (putD (dK kvs) (.inl k) y) _ = _
    rw [putD_dK]
    exact putAll_dK ks ys _
theorem keysOf_int : ∀ ks : List Int, keysOf (dI ks) = some (ks.map Sum.inl)
  | [] => rfl
  | k :: ks => by
    have ih := keysOf_int ks
    unfold dI at ih ⊢
    rw [List.map_cons]
    unfold keysOf
    rw [kOf_int, ih]; rfl
/-- keys met once each: the dict's entries are the pairs -/
theorem fold_put : ∀ (ks : List Int) (ys : List PyData) (kvs : List (Int × PyData)), (kvs.map (·.1) ++ ks).Nodup → ks.length = ys.length → (ks.zip ys).foldl (fun acc p => putK1 acc p.1 p.2) kvs = kvs ++ ks.zip ys
  | [], _, kvs, _, _ => by simp
  | _ :: _, [], _, _, h => by simp at h
  | k :: ks, y :: ys, kvs, nd, hl => by
    rw [List.zip_cons_cons, List.foldl_cons]
    have no : hasK kvs k = false := by
      rw [List.nodup_append] at nd
      unfold hasK
      rw [List.any_eq_false]
      intro p hp e
      exact nd.2.2 p.1 (List.mem_map_of_mem hp) k (by simp) (by simpa using e)
    have e : putK1 kvs k y = kvs ++ [(k, y)] := by unfold putK1; rw [no]; rfl
    rw [e, fold_put ks ys (kvs ++ [(k, y)]) (by simpa [List.append_assoc] using nd) (by simpa using hl)]
    simp
theorem dictZip_int {S : Sto} {ks : List Int} {ys : List PyData} (nd : ks.Nodup) (hl : ks.length = ys.length) : gDictZip [.d (.tuple (dI ks)), .d (.tuple ys)] S = .ok (.f (.dic (dK (ks.zip ys)))) S := by
  unfold gDictZip
  have hl' : (dI ks).length = ys.length := by unfold dI; rw [List.length_map]; exact hl
  have e := putAll_dK ks ys []
  rw [fold_put ks ys [] (by simpa using nd) hl] at e
  simp only [seq_t, keysOf_int, hl', if_true]
  rw [show (putAll [] ((ks.map Sum.inl).zip ys)) = putAll (dK []) ((ks.map Sum.inl).zip ys) from rfl, e]
  rfl
theorem dictZip_seq {S : Sto} {ks : List Int} {ys : List PyData} {v w : Val} {t t' : Bool} {g g' : List (Nat × List PyData)} (hv : seqOf S v = some (t, dI ks, g)) (hw : seqOf S w = some (t', ys, g')) (nd : ks.Nodup) (hl : ks.length = ys.length) : gDictZip [v, w] S = .ok (.f (.dic (dK (ks.zip ys)))) S := by
  have z := dictZip_int (S := S) nd hl
  unfold gDictZip at z ⊢
  dsimp only [seq_t] at z ⊢
  rw [hv, hw]
  exact z
/-- asked by the i-th key -/
theorem look_zip {ks : List Int} {ys : List PyData} (nd : ks.Nodup) {i : Nat} {k : Int} {y : PyData} (hk : ks[i]? = some k) (hy : ys[i]? = some y) : look (dK (ks.zip ys)) (.inl k) = some y := by
  rw [look_dK]
  induction ks generalizing ys i with
  | nil => simp at hk
  | cons j ks ih =>
    cases ys with
    | nil => simp at hy
    | cons z ys =>
      rw [List.zip_cons_cons, List.find?_cons]
      cases i with
      | zero =>
        simp at hk hy
        subst hk hy
        simp
      | succ i =>
        have hk : ks[i]? = some k := by simpa using hk
        have hy : ys[i]? = some y := by simpa using hy
        have ne : (j == k) = false := by
          have := (List.nodup_cons.mp nd).1
          simp only [beq_eq_false_iff_ne]
          intro e
          exact this (e ▸ List.mem_of_getElem? hk)
        simp only [ne]
        exact ih (List.nodup_cons.mp nd).2 hk hy
theorem seq_app {T C : Sto} {v : Val} {q : Bool × List PyData × List (Nat × List PyData)} (h : seqOf T v = some q) : seqOf (T ++ C) v = some q := by
  cases v with
  | f k => cases h
  | g k j => cases h
  | x => cases h
  | d x => cases x <;> first | exact h | cases h
  | z es => exact h
  | c m =>
    rw [seq_c] at h ⊢
    split at h
    · rename_i es q
      rw [List.getElem?_append_left (st_lt q), q]
      exact h
    · cases h
/-! ### rows -/
theorem range_at {n k : Nat} {pre post : List Nat} (e : List.range n = pre ++ k :: post) : k = pre.length ∧ k < n := by
  have h := congrArg (fun l : List Nat => l[pre.length]?) e
  simp at h
  have hk : k ∈ List.range n := by rw [e]; simp
  rw [List.mem_range] at hk
  have hl : pre.length < n := by
    have := congrArg List.length e
    simp at this
    omega
  rw [List.getElem?_range hl] at h
  exact ⟨(Option.some.inj h).symm, hk⟩
theorem sub_len {α : Type} [DecidableEq α] : ∀ {xs ys : List α}, xs.Nodup → (∀ x ∈ xs, x ∈ ys) → xs.length ≤ ys.length
  | [], _, _, _ => Nat.zero_le _
  | x :: xs, ys, nd, hs => by
    have hx := hs x (by simp)
    have nx := (List.nodup_cons.mp nd).1
    have := sub_len (xs := xs) (ys := ys.erase x) (List.nodup_cons.mp nd).2 fun z hz => (List.mem_erase_of_ne fun q => nx (by rw [← q]; exact hz)).mpr (hs z (List.mem_cons_of_mem _ hz))
    rw [List.length_erase_of_mem hx] at this
    have := List.length_pos_of_mem hx
    simp
    omega
theorem perm_ints {P : List Int} {ds : List PyData} (h : ds.Perm (dI P)) : ∃ N, ds = dI N ∧ N.Perm P := by
  refine ⟨ds.map fun d => match d with | .int a => a | _ => 0, ?_, ?_⟩
  · show ds = List.map PyData.int (List.map _ ds)
    rw [List.map_map]
    refine (List.map_id _).symm.trans (List.map_congr_left fun d hd => ?_)
    obtain ⟨t, _, rfl⟩ := List.mem_map.mp (h.mem_iff.mp hd)
    rfl
  · have q := h.map fun d => match d with | .int a => a | _ => 0
    rw [List.map_map] at q
    have e : ((fun d => match d with | .int a => a | _ => 0) ∘ PyData.int) = (id : Int → Int) := rfl
    rw [e, List.map_id] at q
    exact q
def rngI (n : Nat) : List Int := (List.range n).map fun (k : Nat) => (k : Int)
theorem rise_nat (n : Nat) : Rise (rngI n) := by
  unfold rngI
  rw [Rise, List.pairwise_map]
  exact List.Pairwise.imp (fun {a b} h => by omega) List.pairwise_lt_range
theorem mem_rngI {n : Nat} {a : Int} : a ∈ rngI n ↔ 0 ≤ a ∧ a < n := by
  unfold rngI
  rw [List.mem_map]
  constructor
  · rintro ⟨k, hk, rfl⟩
    rw [List.mem_range] at hk
    omega
  · intro h
    exact ⟨a.toNat, List.mem_range.mpr (by omega), by omega⟩
theorem rgD_nat (n : Nat) : rgD 0 (n : Int) = dI (rngI n) := by
  unfold rgD rngI
  show _ = List.map PyData.int (List.map _ _)
  rw [List.map_map]
  refine List.map_congr_left fun k _ => ?_
  simp
theorem ints_dI : ∀ ns : List Int, intsOf (dI ns) = some ns
  | [] => rfl
  | n :: ns => by
    have ih := ints_dI ns
    unfold dI at ih ⊢
    rw [List.map_cons]
    unfold intsOf
    rw [ih]
    rfl
theorem g_maxL {ns : List Int} {t : Int} (S : Sto) (h : topL ns = some t) : gMax [.d (.list (dI ns))] S = .ok (.d (.int t)) S := by
  unfold gMax
  simp [asR, seqOf, ints_dI, h]
theorem g_minL {ns : List Int} {t : Int} (S : Sto) (h : lowL ns = some t) : gMin [.d (.list (dI ns))] S = .ok (.d (.int t)) S := by
  unfold gMin
  simp [asR, seqOf, ints_dI, h]
theorem low_ex {ns : List Int} (h : ns ≠ []) : ∃ t, lowL ns = some t ∧ t ∈ ns ∧ ∀ y ∈ ns, t ≤ y := by
  cases ns with
  | nil => exact absurd rfl h
  | cons n ns => exact ⟨_, rfl, lowL_ok rfl⟩
theorem at_last {α : Type} (xs : List α) (x : α) : atI (xs ++ [x]) (-1) = some x := by
  unfold atI ixN
  rw [if_neg (by decide), if_pos (by simp; omega)]
  have e : (-1 + ((xs ++ [x]).length : Int)).toNat = xs.length := by simp; omega
  show (xs ++ [x])[(-1 + ((xs ++ [x]).length : Int)).toNat]? = some x
  rw [e]; simp
theorem ix_T {ns : List Int} {i y : Int} {S : Sto} (e : atI (dI ns) i = some (.int y)) : gIx (.d (pT ns)) (.d (.int i)) S = .ok (.d (.int y)) S := by
  show gIx (.d (.tuple (dI ns))) (.d (.int i)) S = _
  rw [o_ixT, e]
end MV
set_option Elab.async false
set_option linter.all false
set_option maxRecDepth 100000
/-! Evaluation: dicts of which an item may be a cell. -/
namespace MV
open PySem PySem.Spec PyProof.Rows L2
section
variable {S : Sto} {n m : Nat} {ps : List (Key × Itm)} {ρ : Envi} {f g h : Sx}
@[simp] theorem e_sPutQ : sPutQ f g h ρ S = (h ρ S).bind fun x S1 => (f ρ S1).bind fun v S2 => (g ρ S2).bind fun i S3 => (match gPutR v.th i.th x.th S3 with | some S4 => .ok (.nx ρ) S4 | none => .no) := (rfl)
@[simp] theorem e_DicR {f : SR} : evDicR f ρ S = (f ρ S).bind fun qs S1 => if qs.length ≤ 15 ∧ (Cell.rcd (rPutAll [] qs)).lt S1.length = true then .ok (.f (.rcd (rPutAll [] qs))) S1 else .no := (rfl)
@[simp] theorem e_rNil : rNil ρ S = .ok [] S := (rfl)
@[simp] theorem e_rCons {r : SR} : rCons f g r ρ S = (f ρ S).bind fun v S1 => (g ρ S1).bind fun w S2 => (r ρ S2).bind fun r S3 => (match v.th, itmOf w.th with | .d x, some i => (match kOf x with | some k => .ok ((k, i) :: r) S3 | none => .no) | _, _ => .no) := (rfl)
theorem ixR_c {x : Str} {i : Itm} (h : S[n]? = some (.rcd ps)) (k : rLook ps (.inr x) = some i) : gIxR (.c n) (.d (.str x)) S = .ok i.val S := by
  unfold gIxR rIx
  simp only [h, kOf, k]
  rfl
theorem putR_c {x : Str} {y : PyData} (h : S[n]? = some (.rcd ps)) (hl : ps.length < sizeLine) (lt : (Cell.rcd (rPut ps (.inr x) (.d y))).lt n = true) : gPutR (.c n) (.d (.str x)) (.d y) S = some (S.set n (.rcd (rPut ps (.inr x) (.d y)))) := by
  unfold gPutR
  simp only [h, kOf]
  exact if_pos ⟨hl, lt⟩
theorem o_inLd {ds : List PyData} {d : PyData} (s1 : SeqAt.shaped d = true) (s2 : SeqAt.shaped (.list ds) = true) : isIn S (.d d) (.d (.list ds)) = some (ds.any fun z => PyData.eqv z d) := by
  have e : isIn S (.d d) (.d (.list ds)) = (if SeqAt.shaped d = true ∧ SeqAt.shaped (.list ds) = true then some (ds.any fun z => PyData.eqv z d) else none) := by
    unfold isIn
    cases d <;> rfl
  rw [e, if_pos ⟨s1, s2⟩]
theorem Enc.inLd {α : Type} {enc : α → PyData} {k : Nat} (h : Enc enc k) (a : α) (xs : List α) [Decidable (a ∈ xs)] (hn : k + 1 ≤ 64 := by decide) : gIn (.d (enc a)) (.d (.list (xs.map enc))) S = .ok (.d (.bool (decide (a ∈ xs)))) S := by
  unfold gIn
  rw [o_inLd (h.shaped (by omega) a) (h.lst.shaped hn xs), h.any]
theorem Enc.notInLd {α : Type} {enc : α → PyData} {k : Nat} (h : Enc enc k) (a : α) (xs : List α) [Decidable (a ∈ xs)] (hn : k + 1 ≤ 64 := by decide) : gNotIn (.d (enc a)) (.d (.list (xs.map enc))) S = .ok (.d (.bool (!decide (a ∈ xs)))) S := by
  unfold gNotIn
  rw [o_inLd (h.shaped (by omega) a) (h.lst.shaped hn xs), h.any]
/-! dicts of pairs, all of which hold True -/
@[simp] theorem e_sPutT : sPutT f g h ρ S = (h ρ S).bind fun x S1 => (f ρ S1).bind fun v S2 => (g ρ S2).bind fun i S3 => (match gPutT v.th i.th x.th S3 with | some S4 => .ok (.nx ρ) S4 | none => .no) := (rfl)
@[simp] theorem lt_dtp {k : Nat} {es : List ((Int × Int) × PyData)} : Cell.lt k (.dtp es) = true := (rfl)
def tks (ts : List (Int × Int)) : List ((Int × Int) × PyData) := ts.map fun t => (t, .bool true)
def TD (c : Cell) (ts : List (Int × Int)) : Prop := c = .dtp (tks ts) ∨ (ts = [] ∧ c = .dic [])
def addT (ts : List (Int × Int)) (t : Int × Int) : List (Int × Int) := if t ∈ ts then ts else ts ++ [t]
theorem putT_tks (ts : List (Int × Int)) (t : Int × Int) : putT (tks ts) t (.bool true) = tks (addT ts t) := by
  unfold putT addT
  have e : ((tks ts).any fun p => decide (p.1 = t)) = decide (t ∈ ts) := by
    unfold tks
    rw [List.any_map, Bool.eq_iff_iff, List.any_eq_true, decide_eq_true_iff]
    constructor
    · rintro ⟨x, hx, e⟩
      have e := of_decide_eq_true e
      dsimp only at e
      rw [← e]; exact hx
    · exact fun h => ⟨t, h, decide_eq_true rfl⟩
  rw [e]
  by_cases c : t ∈ ts
  · rw [if_pos (decide_eq_true c), if_pos c]
    unfold tks
    rw [List.map_map]
    refine List.map_congr_left fun x hx => ?_
    dsimp only [Function.comp]
    split
    · rfl
    · rfl
  · rw [if_neg (by simpa using c), if_neg c]
    simp [tks]
theorem td_put {c : Cell} {ts : List (Int × Int)} {t : Int × Int} (h : S[n]? = some c) (d : TD c ts) (hl : ts.length < sizeLine) :
    ∃ c', gPutT (.c n) (.d (.tuple [.int t.1, .int t.2])) (.d (.bool true)) S = some (S.set n c') ∧ TD c' (addT ts t) := by
  rcases d with rfl | ⟨rfl, rfl⟩
  · refine ⟨.dtp (tks (addT ts t)), ?_, .inl rfl⟩
    unfold gPutT pOf
    simp only [h]
    rw [if_pos (by unfold tks; rw [List.length_map]; exact hl), putT_tks]
  · refine ⟨.dtp [(t, .bool true)], ?_, .inl rfl⟩
    unfold gPutT pOf
    simp only [h]
theorem addT_mem {ts : List (Int × Int)} {t u : Int × Int} : u ∈ addT ts t ↔ u ∈ ts ∨ u = t := by
  unfold addT
  split
  · rename_i c
    exact ⟨.inl, fun q => q.elim id fun e => e ▸ c⟩
  · simp
theorem addT_nodup {ts : List (Int × Int)} {t : Int × Int} (h : ts.Nodup) : (addT ts t).Nodup := by
  unfold addT
  split
  · exact h
  · rename_i c
    rw [List.nodup_append]
    exact ⟨h, by simp, fun a ha b hb e => by rw [List.mem_singleton.mp hb] at e; exact c (e ▸ ha)⟩
theorem addT_len {ts : List (Int × Int)} {t : Int × Int} : (addT ts t).length ≤ ts.length + 1 := by
  unfold addT
  split
  · omega
  · simp
theorem pDs_tks (ts : List (Int × Int)) : pDs (tks ts) = dP ts := by
  unfold pDs tks
  rw [List.map_map]
  rfl
theorem td_sorted {c : Cell} {ts : List (Int × Int)} (h : S[n]? = some c) (d : TD c ts) (hl : ts.length ≤ sizeLine) : gSortedT [.c n] S = .ok (.f (.lst (dP (psort ts)))) S := by
  rcases d with rfl | ⟨rfl, rfl⟩
  · rw [← sorted_pair (S := S) (v := .d (.list (dP ts))) (t := false) (g := []) (by simp) hl]
    unfold gSortedT gSorted
    have e : dtpOf S (.c n) = some (tks ts) := by
      show (match S[n]? with | some (.dtp es) => some es | _ => none) = _
      rw [h]
    simp only [e, seq_l]
    rw [pDs_tks]
  · unfold gSortedT gSortedK
    have e : dtpOf S (.c n) = none := by
      show (match S[n]? with | some (.dtp es) => some es | _ => none) = _
      rw [h]
    simp only [e]
    simp [asM, h, intsOf]
    exact List.mergeSort_nil
theorem pairsT_true (ts : List (Int × Int)) : pairsT (ts.map fun t => .tuple [pP t, .bool true]) = some (tks ts) := by
  induction ts with
  | nil => rfl
  | cons t ts ih =>
    show pairsT (.tuple [pP t, .bool true] :: _) = _
    unfold pairsT
    rw [ih]
    rfl
theorem td_all (ts : List (Int × Int)) : ∀ us : List (Int × Int), putAllT (tks us) (tks ts) = tks (ts.foldl addT us) := by
  induction ts with
  | nil => exact fun _ => rfl
  | cons t ts ih =>
    intro us
    show putAllT (putT (tks us) t (.bool true)) (tks ts) = _
    rw [putT_tks, ih]
    rfl
theorem addT_fold {ts : List (Int × Int)} : ∀ {us : List (Int × Int)}, us.Nodup → (ts.foldl addT us).Nodup ∧ (∀ u, u ∈ ts.foldl addT us ↔ u ∈ us ∨ u ∈ ts) := by
  induction ts with
  | nil => exact fun h => ⟨h, fun u => by simp⟩
  | cons t ts ih =>
    intro us h
    obtain ⟨h1, h2⟩ := ih (addT_nodup (t := t) h)
    refine ⟨h1, fun u => ?_⟩
    rw [List.foldl_cons, h2, addT_mem, List.mem_cons]
    rw [or_assoc]
theorem td_dict (ts : List (Int × Int)) : gDictT [.d (.list (ts.map fun t => .tuple [pP t, .bool true]))] S = .ok (.f (.dtp (tks (ts.foldl addT [])))) S := by
  unfold gDictT
  simp only [asL_l, Option.bind_some, pairsT_true]
  rw [← td_all]
  rfl
/-! sorted(set(..)) -/
@[simp] theorem e_SorS : evSorS f ρ S = (f ρ S).bind fun v S1 => gSorS v.th S1 := (rfl)
theorem sorS_I {v : Val} {t : Bool} {ns : List Int} {g : List (Nat × List PyData)} (hv : seqOf S v = some (t, dI ns, g)) (hl : ns.length < 60) : gSorS v S = .ok (.f (.lst (dI (isort (dd ns))))) S := by
  unfold gSorS
  simp only [hv, ints_dI]
  rw [if_pos hl]
  rfl
theorem sorS_P {v : Val} {t : Bool} {ts : List (Int × Int)} {g : List (Nat × List PyData)} (hv : seqOf S v = some (t, dP ts, g)) (hl : ts.length < 64) (hb : ∀ t ∈ ts, 0 ≤ t.1 ∧ t.1 < 1000 ∧ 0 ≤ t.2 ∧ t.2 < 1000) : gSorS v S = .ok (.f (.lst (dP (psort (dd ts))))) S := by
  unfold gSorS
  cases ts with
  | nil =>
    simp only [hv]
    show (if (0 : Nat) < 60 then _ else _) = _
    rw [if_pos (by decide)]
    simp [dd, psort]
  | cons u ts =>
    have e1 : intsOf (dP (u :: ts)) = none := rfl
    have e2 : pairsI (dP (u :: ts)) = some (u :: ts) := pairsI_map (u :: ts)
    simp only [hv, e1, e2]
    rw [if_pos ⟨hl, List.all_eq_true.mpr fun p hp => decide_eq_true (hb p hp)⟩]
    rfl
/-! ### lists of lists -/
@[simp] theorem e_If2 {c : Envi → Bool} {f g : Sx} : evIf2 c f g ρ S = if c ρ = true then f ρ S else g ρ S := (rfl)
@[simp] theorem e_notV {i : Nat} {k : Int} : notV i k ρ = (match ρ[i]? with | some (some (.d (.int j))) => j != k | _ => true) := (rfl)
@[simp] theorem ixN_d {x : PyData} {w : Val} : gIxN (.d x) w S = gIx (.d x) w S := (rfl)
theorem ixN_lst {n : Nat} {ds : List PyData} {w : Val} (h : S[n]? = some (.lst ds)) : gIxN (.c n) w S = gIx (.c n) w S := by
  have e : nlsOf S (.c n) = none := by
    unfold nlsOf
    dsimp only
    rw [h]
  unfold gIxN
  rw [e]
theorem ixN_nls {n : Nat} {is : List Itm} {i : Int} {z : Itm} (h : S[n]? = some (.nls is)) (k : atI is i = some z) : gIxN (.c n) (.d (.int i)) S = .ok z.val S := by
  have e : nlsOf S (.c n) = some (n, is) := by
    unfold nlsOf
    dsimp only
    rw [h]
  unfold gIxN
  rw [e]
  dsimp only
  rw [k]
theorem gGo_map {α : Type} {bd : Bnd} {e : Sx} {base : Sto} (enc : α → PyData) (cel : α → List PyData) : ∀ (xs : List α) (acc : List Cell), (∀ x ∈ xs, ∃ ρ1, bd.go (enc x) ρ = some ρ1 ∧ ∀ T : Sto, e ρ1 T = .ok (.f (.lst (cel x))) T) → gGo bd e ρ base (xs.map enc) acc = some (acc ++ xs.map fun x => .lst (cel x))
  | [], acc, _ => by
    unfold gGo
    rw [List.map_nil, List.map_nil, List.append_nil]
  | x :: xs, acc, h => by
    obtain ⟨ρ1, h1, h2⟩ := h x (by simp)
    rw [List.map_cons]
    unfold gGo
    rw [h1]
    dsimp only
    rw [h2]
    dsimp only
    rw [if_pos rfl, gGo_map enc cel xs _ fun y hy => h y (List.mem_cons_of_mem _ hy)]
    simp
theorem e_CompG {α : Type} {src : SI} {bd : Bnd} {e : Sx} {own : List Nat} (enc : α → PyData) (cel : α → List PyData) (xs : List α) (hs : src ρ S = .ok ⟨xs.map enc, []⟩ S) (hl : xs.length ≤ 1000) (h : ∀ x ∈ xs, ∃ ρ1, bd.go (enc x) (wipeE ρ own) = some ρ1 ∧ ∀ T : Sto, e ρ1 T = .ok (.f (.lst (cel x))) T) :
    evCompG src bd e own ρ S = .ok (.g ((xs.map fun x => .lst (cel x)) ++ [nlsC S.length xs.length]) xs.length) S := by
  unfold evCompG
  rw [hs]
  simp only [bind_ok]
  rw [if_pos (by have : (1000 : Nat) ≤ sizeLine := by decide
                 rw [List.length_map]; omega), gGo_map enc cel xs [] h]
  simp
theorem nGo_map {i : Nat} {e : Sx} (f : Itm → PyData) : ∀ (is : List Itm) (acc : List PyData), (∀ x ∈ is, ∃ v, e (ρ.set i (some x.val)) S = .ok v S ∧ v.th = .d (f x)) → nGo i e ρ S is acc = some (acc ++ is.map f)
  | [], acc, _ => by
    unfold nGo
    rw [List.map_nil, List.append_nil]
  | x :: xs, acc, h => by
    obtain ⟨v, h1, h2⟩ := h x (by simp)
    unfold nGo
    rw [h1]
    dsimp only
    rw [if_pos rfl, h2]
    dsimp only
    rw [nGo_map f xs _ fun y hy => h y (List.mem_cons_of_mem _ hy)]
    simp
theorem e_CompN {i n : Nat} {e : Sx} {g : Sx} {own : List Nat} (f : Itm → PyData) (is : List Itm) (hg : g ρ S = .ok (.c n) S) (hn : S[n]? = some (.nls is)) (hl : is.length ≤ 1000) (h : ∀ x ∈ is, ∃ v, e ((wipeE ρ own).set i (some x.val)) S = .ok v S ∧ v.th = .d (f x)) :
    evCompN g i e own ρ S = .ok (.f (.lst (is.map f))) S := by
  have q : nlsOf S (.c n) = some (n, is) := by
    unfold nlsOf
    dsimp only
    rw [hn]
  unfold evCompN
  rw [hg]
  simp only [bind_ok, th_c]
  rw [q]
  dsimp only
  rw [if_pos (by have : (1000 : Nat) ≤ sizeLine := by decide
                 omega), nGo_map f is [] h]
  rfl
@[simp] theorem e_Swp {o1 k1 o2 k2 : Sx} {f : SA} : sSwp o1 k1 o2 k2 f ρ S = (f ρ S).bind fun vs S1 => match vs with
  | [x1, x2] => (o1 ρ S1).bind fun v1 S2 => (k1 ρ S2).bind fun i1 S3 => match gPut v1.th i1.th x1 S3 with
    | some S4 => (o2 ρ S4).bind fun v2 S5 => (k2 ρ S5).bind fun i2 S6 => match gPut v2.th i2.th x2 S6 with
      | some S7 => .ok (.nx ρ) S7
      | none => .no
    | none => .no
  | _ => .no := (rfl)
end
end MV
set_option Elab.async false
set_option linter.all false
set_option maxRecDepth 100000
/-! Small lemmas for walking mirrors. -/
namespace MV
open PySem PySem.Spec PyProof.Rows L2
theorem eq_of_wp {α : Type} {r : Res α} {a : α} {S : Sto} (h : wp r fun v S2 => v = a ∧ S2 = S) : r = .ok a S := by
  obtain ⟨v, S2, e, rfl, rfl⟩ := h.ex
  exact e
theorem tk_self {S : Sto} : List.take S.length S = S := List.take_of_length_le (Nat.le_refl _)
theorem tk_app {S T : Sto} : List.take S.length (S ++ T) = S := List.take_left' rfl
theorem tk_set {S : Sto} {i : Nat} {x : Cell} : List.take S.length (S.set i x) = S.set i x := List.take_of_length_le (by simp)
/-- a while loop of which a turn may be left by continue or break -/
theorem wp_whileC {c : SB} {b : Ss} {Q : Fw → Sto → Prop} (I : Nat → Envi → Sto → Prop)
    (step : ∀ m ρ S, I m ρ S → ∀ K : Bool → Sto → Prop, (∀ S1, (∀ K2 : Fw → Sto → Prop, (∀ m' ρ2 S2, m' < m → I m' ρ2 S2 → K2 (.nx ρ2) S2) → (∀ m' ρ2 S2, m' < m → I m' ρ2 S2 → K2 (.ct ρ2) S2) → (∀ ρ2 S2, Q (.nx ρ2) S2 → K2 (.bk ρ2) S2) → (∀ v S2, Q (.rt v) S2 → K2 (.rt v) S2) → wp (b ρ S1) K2) → K true S1) → (∀ S1, Q (.nx ρ) S1 → K false S1) → wp (c ρ S) K)
    (n m : Nat) (ρ : Envi) (S : Sto) (h : m < n) (i : I m ρ S) : wp (sWhN c b n ρ S) Q :=
  wp_while I (fun m ρ S h => step m ρ S h _ (fun S1 q => by
    rw [if_pos rfl]
    exact q _ (fun m' ρ2 S2 h1 h2 => ⟨m', h1, h2⟩) (fun m' ρ2 S2 h1 h2 => ⟨m', h1, h2⟩) (fun _ _ h => h) fun _ _ h => h) fun S1 q => by
    rw [if_neg Bool.false_ne_true]
    exact q) n m ρ S h i
end MV
set_option Elab.async false
set_option linter.all false
set_option maxRecDepth 100000
namespace Z
open PySem PySem.Spec PyProof.Rows L2 MV
def topS (i : Nat) : Stmt := PySem.Challenge.pw_drawnweb_k50_counts_and_kinds_bar.main.body.getD i (.Pass ⟨0, 0, 0, 0⟩)
abbrev s_tied_to : Stmt := topS 29
abbrev n_tied_to : List Str := ["web", "found", "one", "other", "place"]
noncomputable def y_tied_to : Ss := sSeq (sFzG 1 (sSeq (sCell 1 (evDictL (iSeq (ev2 gIx (evV 0) (evK (.int 0)))) 4)) (sFo (iSeq (ev2 gIx (evV 0) (evK (.int 1)))) (bTup [bName 2, bName 3])
      (sSeq (sEx (evMt "list" gAppend (ev2 gIxR (evV 1) (evV 2)) (aCons (evV 3) (aNil)))) (sEx (evMt "list" gAppend (ev2 gIxR (evV 1) (evV 3)) (aCons (evV 2)
      (aNil)))))))) (sRt (evV 1))
noncomputable def m_tied_to : Fn := mkFn 1 5 y_tied_to
abbrev s_most_ties : Stmt := topS 30
abbrev n_most_ties : List Str := ["web", "some"]
noncomputable def y_most_ties : Ss := sRt (evMaxD (evComp (iValsD (evCall m_tied_to (aCons (evV 0) (aNil)))) (bName 1) (bYes) (evCall (g1 fLen) (aCons (evV 1) (aNil))) [1]) (evK (.int 0)))
noncomputable def m_most_ties : Fn := mkFn 1 2 y_most_ties
abbrev s_near : Stmt := topS 22
abbrev n_near : List Str := ["web", "place", "ahead", "behind", "a", "b"]
noncomputable def y_near : Ss := sSeq (sSet 2 (evComp (iSeq (ev2 gIx (evV 0) (evK (.int 1)))) (bTup [bName 4, bName 5]) (tst (ev2 gEq (evV 5) (evV 1))) (evV 4) [4, 5])) (sSeq (sSet 3 (evComp
      (iSeq (ev2 gIx (evV 0) (evK (.int 1)))) (bTup [bName 4, bName 5]) (tst (ev2 gEq (evV 4) (evV 1))) (evV 5) [4, 5])) (sRt (evCall (g1 fTuple) (aCons (evCall
      gSorted (aCons (ev2 gAdd (evV 2) (evV 3)) (aNil))) (aNil)))))
noncomputable def m_near : Fn := mkFn 2 6 y_near
abbrev s_piece_of : Stmt := topS 24
abbrev n_piece_of : List Str := ["web", "some", "place", "met", "waiting", "other"]
noncomputable def y_piece_of : Ss := sSeq (sCell 3 (evDic (dCons (evV 2) (evK (.bool true)) (dNil)))) (sSeq (sCell 4 (evLst (aCons (evV 2) (aNil)))) (sSeq (sWhN (tst (ev2 gGt (evCall (g1 fLen)
      (aCons (evV 4) (aNil))) (evK (.int 0)))) (sFo (iSeq (evCall m_near (aCons (evV 0) (aCons (evMt "list" gPop (evV 4) aNil) (aNil))))) (bName 5) (sIf (bAnd
      (tst (ev2 gIn (evV 5) (evV 1))) (tst (ev2 gNotIn (evV 5) (evV 3)))) (sSeq (sPut (evV 3) (evV 5) (evK (.bool true))) (sEx (evMt "list" gAppend (evV 4)
      (aCons (evV 5) (aNil))))) (sNil))) 1000000) (sRt (evCall (g1 fTuple) (aCons (evCall gSortedK (aCons (evV 3) (aNil))) (aNil))))))
noncomputable def m_piece_of : Fn := mkFn 3 6 y_piece_of
abbrev s_pieces : Stmt := topS 25
abbrev n_pieces : List Str := ["web", "some", "met", "found", "place", "piece", "one"]
noncomputable def y_pieces : Ss := sSeq (sCell 2 (evDic0)) (sSeq (sCell 3 (evLst (aNil))) (sSeq (sFo (iSeq (evV 1)) (bName 4) (sIf (tst (ev2 gNotIn (evV 4) (evV 2))) (sSeq (sSet 5 (evCall
      m_piece_of (aCons (evV 0) (aCons (evV 1) (aCons (evV 4) (aNil)))))) (sSeq (sEx (evMt "list" gAppend (evV 3) (aCons (evV 5) (aNil)))) (sEx (evMt "dict"
      gUpdate (evV 2) (aCons (evComp (iSeq (evV 5)) (bName 6) (bYes) (evTup (aCons (evV 6) (aCons (evK (.bool true)) (aNil)))) [6]) (aNil)))))) (sNil))) (sRt
      (evCall (g1 fTuple) (aCons (evV 3) (aNil))))))
noncomputable def m_pieces : Fn := mkFn 2 7 y_pieces
abbrev s_is_forest : Stmt := topS 31
abbrev n_is_forest : List Str := ["web"]
noncomputable def y_is_forest : Ss := sRt (ev2 gEq (ev2 gAdd (evCall (g1 fLen) (aCons (ev2 gIx (evV 0) (evK (.int 1))) (aNil))) (evCall (g1 fLen) (aCons (evCall m_pieces (aCons (evV 0) (aCons
      (ev2 gIx (evV 0) (evK (.int 0))) (aNil)))) (aNil)))) (evCall (g1 fLen) (aCons (ev2 gIx (evV 0) (evK (.int 0))) (aNil))))
noncomputable def m_is_forest : Fn := mkFn 1 1 y_is_forest
abbrev s_has_hub : Stmt := topS 32
abbrev n_has_hub : List Str := ["web", "place", "tie"]
noncomputable def y_has_hub : Ss := sSeq (sIf (tst (ev2 gEq (ev2 gIx (evV 0) (evK (.int 1))) (evTup (aNil)))) (sRt (evK (.bool true))) (sNil)) (sRt (evCall (g1 fAny) (aCons (evComp (iSeq (ev2
      gIx (ev2 gIx (evV 0) (evK (.int 1))) (evK (.int 0)))) (bName 1) (bYes) (evCall (g1 fAll) (aCons (evComp (iSeq (ev2 gIx (evV 0) (evK (.int 1)))) (bName
      2) (bYes) (ev2 gIn (evV 1) (evV 2)) [2]) (aNil))) [1]) (aNil))))
noncomputable def m_has_hub : Fn := mkFn 1 3 y_has_hub
abbrev s_are_stars : Stmt := topS 33
abbrev n_are_stars : List Str := ["web", "near", "one", "other"]
noncomputable def y_are_stars : Ss := sSeq (sSet 1 (evCall m_tied_to (aCons (evV 0) (aNil)))) (sRt (evCall (g1 fAll) (aCons (evComp (iSeq (ev2 gIx (evV 0) (evK (.int 1)))) (bTup [bName 2, bName
      3]) (bYes) (evOr (ev2 gEq (evCall (g1 fLen) (aCons (ev2 gIx (evV 1) (evV 2)) (aNil))) (evK (.int 1))) (ev2 gEq (evCall (g1 fLen) (aCons (ev2 gIx (evV
      1) (evV 3)) (aNil))) (evK (.int 1)))) [2, 3]) (aNil))))
noncomputable def m_are_stars : Fn := mkFn 1 4 y_are_stars
abbrev s_is_comb : Stmt := topS 34
abbrev n_is_comb : List Str := ["web", "near", "inner", "place", "some", "one"]
noncomputable def y_is_comb : Ss := sSeq (sSet 1 (evCall m_tied_to (aCons (evV 0) (aNil)))) (sSeq (sSet 2 (evCall gDict (aCons (evComp (iAny (evV 1)) (bName 3) (bYes) (evTup (aCons (evV 3)
      (aCons (evComp (iSeq (ev2 gIx (evV 1) (evV 3))) (bName 5) (tst (ev2 gGt (evCall (g1 fLen) (aCons (ev2 gIx (evV 1) (evV 5)) (aNil))) (evK (.int 1)))) (evV
      5) [5]) (aNil)))) [3]) (aNil)))) (sRt (evAnd (evCall m_is_forest (aCons (evV 0) (aNil))) (evCall (g1 fAll) (aCons (evComp (iValsD (evV 2)) (bName 4) (bYes)
      (ev2 gLt (evCall (g1 fLen) (aCons (evV 4) (aNil))) (evK (.int 3))) [4]) (aNil))))))
noncomputable def m_is_comb : Fn := mkFn 1 6 y_is_comb
abbrev s_parents : Stmt := topS 35
abbrev n_parents : List Str := ["web", "near", "found", "begin", "waiting", "here", "one"]
noncomputable def y_parents : Ss := sSeq (sSet 1 (evCall m_tied_to (aCons (evV 0) (aNil)))) (sSeq (sCell 2 (evDic0)) (sSeq (sFo (iSeq (ev2 gIx (evV 0) (evK (.int 0)))) (bName 3) (sSeq (sIf
      (tst (ev2 gIn (evV 3) (evV 2))) (sCt) (sNil)) (sSeq (sPut (evV 2) (evV 3) (evTup (aCons (evK .none) (aCons (evK (.int 0)) (aNil))))) (sSeq (sCell 4 (evLst
      (aCons (evV 3) (aNil)))) (sWhN (tst (ev2 gNe (evV 4) (evLst (aNil)))) (sSeq (sSet 5 (evMt "list" gPop (evV 4) (aCons (evK (.int 0)) (aNil)))) (sFo (iSeq
      (ev2 gIx (evV 1) (evV 5))) (bName 6) (sIf (tst (ev2 gNotIn (evV 6) (evV 2))) (sSeq (sPut (evV 2) (evV 6) (evTup (aCons (evV 5) (aCons (ev2 gAdd (ev2 gIx
      (ev2 gIx (evV 2) (evV 5)) (evK (.int 1))) (evK (.int 1))) (aNil))))) (sEx (evMt "list" gAppend (evV 4) (aCons (evV 6) (aNil))))) (sNil)))) 1000000)))))
      (sRt (evV 2))))
noncomputable def m_parents : Fn := mkFn 1 7 y_parents
abbrev s_climbed : Stmt := topS 36
abbrev n_climbed : List Str := ["come", "one", "other", "found"]
noncomputable def y_climbed : Ss := sSeq (sCell 3 (evLst (aNil))) (sSeq (sWhN (tst (ev2 gNe (evV 1) (evV 2))) (sSeq (sIf (tst (ev2 gLt (ev2 gIx (ev2 gIx (evV 0) (evV 1)) (evK (.int 1))) (ev2
      gIx (ev2 gIx (evV 0) (evV 2)) (evK (.int 1))))) (sPar 1 2 (aCons (evV 2) (aCons (evV 1) (aNil)))) (sNil)) (sSeq (sEx (evMt "list" gAppend (evV 3) (aCons
      (evV 1) (aNil)))) (sSet 1 (ev2 gIx (ev2 gIx (evV 0) (evV 1)) (evK (.int 0)))))) 1000000) (sRt (evV 3)))
noncomputable def m_climbed : Fn := mkFn 3 4 y_climbed
abbrev s_has_lone_rings : Stmt := topS 37
abbrev n_has_lone_rings : List Str := ["web", "come", "used", "one", "other", "place"]
noncomputable def y_has_lone_rings : Ss := sSeq (sSet 1 (evCall m_parents (aCons (evV 0) (aNil)))) (sSeq (sCell 2 (evDic0)) (sSeq (sFo (iSeq (ev2 gIx (evV 0) (evK (.int 1)))) (bTup [bName 3, bName
      4]) (sIf (bAnd (tst (ev2 gNe (ev2 gIx (ev2 gIx (evV 1) (evV 3)) (evK (.int 0))) (evV 4))) (tst (ev2 gNe (ev2 gIx (ev2 gIx (evV 1) (evV 4)) (evK (.int
      0))) (evV 3)))) (sFo (iSeq (evCall m_climbed (aCons (evV 1) (aCons (evV 3) (aCons (evV 4) (aNil)))))) (bName 5) (sSeq (sIf (tst (ev2 gIn (evV 5) (evV
      2))) (sRt (evK (.bool false))) (sNil)) (sPut (evV 2) (evV 5) (evK (.bool true))))) (sNil))) (sRt (evK (.bool true)))))
noncomputable def m_has_lone_rings : Fn := mkFn 1 6 y_has_lone_rings
abbrev s_tied_to__G : Stmt := topS 29
abbrev n_tied_to__G : List Str := ["web", "found", "one", "other", "place"]
noncomputable def y_tied_to__G : Ss := sSeq (sCell 1 (evDictL (iSeq (ev2 gIx (evV 0) (evK (.int 0)))) 4)) (sSeq (sFo (iSeq (ev2 gIx (evV 0) (evK (.int 1)))) (bTup [bName 2, bName 3]) (sSeq (sEx
      (evMt "list" gAppend (ev2 gIxR (evV 1) (evV 2)) (aCons (evV 3) (aNil)))) (sEx (evMt "list" gAppend (ev2 gIxR (evV 1) (evV 3)) (aCons (evV 2) (aNil))))))
      (sRt (evV 1)))
noncomputable def m_tied_to__G : Fn := mkFn 1 5 y_tied_to__G
abbrev s_is_series : Stmt := topS 38
abbrev n_is_series : List Str := ["web", "near", "waiting", "place", "some", "one"]
noncomputable def y_is_series : Ss := sSeq (sCell 1 (evCall m_tied_to__G (aCons (evV 0) (aNil)))) (sSeq (sCell 2 (evCall gList (aCons (ev2 gIx (evV 0) (evK (.int 0))) (aNil)))) (sSeq (sWhN (tst
      (ev2 gNe (evV 2) (evLst (aNil)))) (sSeq (sSet 3 (evMt "list" gPop (evV 2) aNil)) (sSeq (sIf (bOr (tst (ev2 gNotInR (evV 3) (evV 1))) (tst (ev2 gGt (evCall
      (g1 fLen) (aCons (ev2 gIxR (evV 1) (evV 3)) (aNil))) (evK (.int 2))))) (sCt) (sNil)) (sSeq (sSet 4 (evMtR gPopR (evV 1) (aCons (evV 3) (aNil)))) (sSeq
      (sFo (iSeq (evV 4)) (bName 5) (sEx (evMt "list" gRemove (ev2 gIxR (evV 1) (evV 5)) (aCons (evV 3) (aNil))))) (sSeq (sIf (bAnd (tst (ev2 gEq (evCall (g1
      fLen) (aCons (evV 4) (aNil))) (evK (.int 2)))) (tst (ev2 gNotIn (ev2 gIx (evV 4) (evK (.int 1))) (ev2 gIxR (evV 1) (ev2 gIx (evV 4) (evK (.int 0)))))))
      (sSeq (sEx (evMt "list" gAppend (ev2 gIxR (evV 1) (ev2 gIx (evV 4) (evK (.int 0)))) (aCons (ev2 gIx (evV 4) (evK (.int 1))) (aNil)))) (sEx (evMt "list"
      gAppend (ev2 gIxR (evV 1) (ev2 gIx (evV 4) (evK (.int 1)))) (aCons (ev2 gIx (evV 4) (evK (.int 0))) (aNil))))) (sNil)) (sEx (evMt "list" gExtend (evV
      2) (aCons (evV 4) (aNil))))))))) 1000000) (sRt (ev2 gEqR (evV 1) (evDic0)))))
noncomputable def m_is_series : Fn := mkFn 1 6 y_is_series
abbrev s_is_kind : Stmt := topS 39
abbrev n_is_kind : List Str := ["word", "web"]
noncomputable def y_is_kind : Ss := sSeq (sIf (tst (ev2 gEq (evV 0) (evK (.str (Str.ofString "bare"))))) (sRt (ev2 gEq (ev2 gIx (evV 1) (evK (.int 1))) (evTup (aNil)))) (sNil)) (sSeq (sIf
      (tst (ev2 gEq (evV 0) (evK (.str (Str.ofString "pairs"))))) (sRt (ev2 gLt (evCall m_most_ties (aCons (evV 1) (aNil))) (evK (.int 2)))) (sNil)) (sSeq (sIf
      (tst (ev2 gEq (evV 0) (evK (.str (Str.ofString "hub"))))) (sRt (evCall m_has_hub (aCons (evV 1) (aNil)))) (sNil)) (sSeq (sIf (tst (ev2 gEq (evV 0) (evK
      (.str (Str.ofString "stars"))))) (sRt (evCall m_are_stars (aCons (evV 1) (aNil)))) (sNil)) (sSeq (sIf (tst (ev2 gEq (evV 0) (evK (.str (Str.ofString "rows")))))
      (sRt (evAnd (evCall m_is_forest (aCons (evV 1) (aNil))) (ev2 gLt (evCall m_most_ties (aCons (evV 1) (aNil))) (evK (.int 3))))) (sNil)) (sSeq (sIf (tst
      (ev2 gEq (evV 0) (evK (.str (Str.ofString "combs"))))) (sRt (evCall m_is_comb (aCons (evV 1) (aNil)))) (sNil)) (sSeq (sIf (tst (ev2 gEq (evV 0) (evK (.str
      (Str.ofString "forest"))))) (sRt (evCall m_is_forest (aCons (evV 1) (aNil)))) (sNil)) (sSeq (sIf (tst (ev2 gEq (evV 0) (evK (.str (Str.ofString "rings")))))
      (sRt (evCall m_has_lone_rings (aCons (evV 1) (aNil)))) (sNil)) (sRt (evCall m_is_series (aCons (evV 1) (aNil)))))))))))
noncomputable def m_is_kind : Fn := mkFn 2 2 y_is_kind
abbrev s_l_pot : Stmt := topS 77
abbrev n_l_pot : List Str := ["_law_script", "_law_k", "_law_cell", "_law_far", "_law_turn", "_law_digits"]
noncomputable def y_l_pot : Ss := sSeq (sSet 2 (evK (.int 0))) (sSeq (sIf (tst (ev2 gGt (evCall (g1 fLen) (aCons (evV 0) (aNil))) (evK (.int 0)))) (sSet 2 (ev2 gIx (evV 0) (ev2 gMod (evV
      1) (evCall (g1 fLen) (aCons (evV 0) (aNil)))))) (sNil)) (sSeq (sSet 3 (evK (.int 1))) (sSeq (sFo (iBy gRange1 (aCons (evK (.int 10)) (aNil))) (bName 4)
      (sSet 3 (ev2 gMul (evV 3) (ev2 gPow (evK (.int 10)) (evK (.int 60)))))) (sSeq (sSet 5 (ev2 gMul (ev2 gMod (evCall (g1 fAbs) (aCons (evV 2) (aNil))) (evV
      3)) (evCall (g1 fInt) (aCons (evAnd (ev2 gGe (evCall (g1 fAbs) (aCons (evV 2) (aNil))) (ev2 gPow (evK (.int 10)) (evK (.int 18)))) (ev2 gLt (evV 1) (evCall
      (g1 fLen) (aCons (evV 0) (aNil))))) (aNil))))) (sRt (evLst (aCons (evV 5) (aCons (ev2 gMod (ev2 gMul (ev2 gAdd (ev2 gAdd (ev2 gMod (evV 2) (evK (.int
      2147483587))) (ev2 gMul (ev2 gMul (evK (.int 6007)) (evV 1)) (evV 1))) (evK (.int 29))) (evK (.int 39373))) (evK (.int 2147483629))) (aCons (evK (.int
      0)) (aNil))))))))))
noncomputable def m_l_pot : Fn := mkFn 2 6 y_l_pot
abbrev s_l_take : Stmt := topS 78
abbrev n_l_take : List Str := ["_law_pot_here", "_law_many", "_law_digit"]
noncomputable def y_l_take : Ss := sSeq (sIf (tst (ev2 gGt (ev2 gIx (evV 0) (evK (.int 0))) (evK (.int 0)))) (sSeq (sSet 2 (ev2 gMod (ev2 gIx (evV 0) (evK (.int 0))) (evV 1))) (sSeq (sPut
      (evV 0) (evK (.int 0)) (ev2 gDiv (ev2 gIx (evV 0) (evK (.int 0))) (evV 1))) (sRt (evV 2)))) (sNil)) (sSeq (sPut (evV 0) (evK (.int 2)) (ev2 gAdd (ev2
      gIx (evV 0) (evK (.int 2))) (evK (.int 1)))) (sSeq (sPut (evV 0) (evK (.int 1)) (ev2 gMod (ev2 gAdd (ev2 gAdd (ev2 gMul (ev2 gIx (evV 0) (evK (.int 1)))
      (evK (.int 48271))) (ev2 gMul (evK (.int 101)) (ev2 gIx (evV 0) (evK (.int 2))))) (evK (.int 5))) (evK (.int 2147483629)))) (sRt (ev2 gMod (ev2 gDiv (ev2
      gMod (ev2 gMul (ev2 gIx (evV 0) (evK (.int 1))) (ev2 gAdd (ev2 gMod (ev2 gIx (evV 0) (evK (.int 1))) (evK (.int 32003))) (evK (.int 9)))) (evK (.int 2147483587)))
      (evK (.int 13))) (evV 1)))))
noncomputable def m_l_take : Fn := mkFn 2 3 y_l_take
abbrev s_l_web : Stmt := topS 79
abbrev n_l_web : List Str := ["_law_pot_here", "_law_many", "_law_k", "_law_j", "_law_make", "_law_at", "_law_places", "_law_ties", "_law_i", "_law_made"]
noncomputable def y_l_web : Ss := sSeq (sMul [4, 5, 6, 7] (aCons (evCall m_l_take (aCons (evV 0) (aCons (evK (.int 6)) (aNil)))) (aCons (evCall m_l_take (aCons (evV 0) (aCons (evK (.int
      4)) (aNil)))) (aCell (evLst (aNil)) (aCell (evLst (aNil)) (aNil)))))) (sSeq (sFo (iBy gRange1 (aCons (evV 1) (aNil))) (bName 2) (sSeq (sEx (evMt "list"
      gAppend (evV 6) (aCons (evV 5) (aNil)))) (sSet 5 (ev2 gAdd (ev2 gAdd (evV 5) (evK (.int 1))) (ev2 gIx (evLst (aCons (evK (.int 0)) (aCons (evCall m_l_take
      (aCons (evV 0) (aCons (evK (.int 4)) (aNil)))) (aCons (evK (.int 0)) (aNil))))) (evCall m_l_take (aCons (evV 0) (aCons (evK (.int 3)) (aNil))))))))) (sSeq
      (sFo (iBy gRange1 (aCons (evV 1) (aNil))) (bName 3) (sFo (iBy gRange1 (aCons (evV 3) (aNil))) (bName 8) (sSeq (sSet 9 (ev2 gIx (evLst (aCons (ev2 gEq
      (evV 3) (ev2 gAdd (evV 8) (evK (.int 1)))) (aCons (evOr (ev2 gEq (evV 3) (ev2 gAdd (evV 8) (evK (.int 1)))) (ev2 gEq (evTup (aCons (evV 8) (aCons (evV
      3) (aNil)))) (evTup (aCons (evK (.int 0)) (aCons (ev2 gSub (evV 1) (evK (.int 1))) (aNil)))))) (aCons (ev2 gEq (evV 8) (evK (.int 0))) (aCons (evK (.bool
      false)) (aCons (evK (.bool true)) (aCons (ev2 gLt (evV 3) (ev2 gAdd (evV 8) (evK (.int 3)))) (aNil)))))))) (evV 4))) (sIf (tst (ev2 gNe (evV 9) (ev2 gEq
      (evCall m_l_take (aCons (evV 0) (aCons (ev2 gIx (evLst (aCons (evK (.int 9)) (aCons (evK (.int 9)) (aCons (evK (.int 9)) (aCons (evK (.int 3)) (aCons
      (evK (.int 5)) (aCons (evK (.int 6)) (aNil)))))))) (evV 4)) (aNil)))) (evK (.int 0))))) (sEx (evMt "list" gAppend (evV 7) (aCons (evTup (aCons (ev2 gIx
      (evV 6) (evV 8)) (aCons (ev2 gIx (evV 6) (evV 3)) (aNil)))) (aNil)))) (sNil))))) (sRt (evTup (aCons (evCall (g1 fTuple) (aCons (evV 6) (aNil))) (aCons
      (evCall (g1 fTuple) (aCons (evSl (evCall gSorted (aCons (evV 7) (aNil))) (oNo) (oYes (evK (.int 60)))) (aNil))) (aNil)))))))
noncomputable def m_l_web : Fn := mkFn 2 10 y_l_web
abbrev s_has_more : Stmt := topS 72
abbrev n_has_more : List Str := ["web", "told"]
noncomputable def y_has_more : Ss := sRt (evOr (ev2 gGt (evCall (g1 fLen) (aCons (ev2 gIx (evV 1) (evK (.int 0))) (aNil))) (evCall (g1 fLen) (aCons (ev2 gIx (evV 0) (evK (.int 0))) (aNil))))
      (ev2 gGt (evCall (g1 fLen) (aCons (ev2 gIx (evV 1) (evK (.int 1))) (aNil))) (evCall (g1 fLen) (aCons (ev2 gIx (evV 0) (evK (.int 1))) (aNil)))))
noncomputable def m_has_more : Fn := mkFn 2 2 y_has_more
abbrev s_bars_wall : Stmt := topS 73
noncomputable def m_bars_wall : Fn := fun _ _ => .no
abbrev s_shows_book : Stmt := topS 20
noncomputable def m_shows_book : Fn := fun _ _ => .no
abbrev s_kinds : Stmt := topS 40
abbrev n_kinds : List Str := ["web", "word"]
noncomputable def y_kinds : Ss := sRt (evCall (g1 fTuple) (aCons (evComp (iSeq (evK (.tuple [.str (Str.ofString "bare"), .str (Str.ofString "pairs"), .str (Str.ofString "hub"), .str (Str.ofString
      "stars"), .str (Str.ofString "rows"), .str (Str.ofString "combs"), .str (Str.ofString "forest"), .str (Str.ofString "rings"), .str (Str.ofString "series")])))
      (bName 1) (tst (evCall m_is_kind (aCons (evV 1) (aCons (evV 0) (aNil))))) (evV 1) [1]) (aNil)))
noncomputable def m_kinds : Fn := mkFn 1 2 y_kinds
abbrev s_least_width : Stmt := topS 51
noncomputable def m_least_width : Fn := fun _ _ => .no
abbrev s_least_spread : Stmt := topS 52
noncomputable def m_least_spread : Fn := fun _ _ => .no
abbrev s_width : Stmt := topS 60
noncomputable def m_width : Fn := fun _ _ => .no
abbrev s_spread : Stmt := topS 61
noncomputable def m_spread : Fn := fun _ _ => .no
abbrev s_is_order : Stmt := topS 70
noncomputable def m_is_order : Fn := fun _ _ => .no
abbrev s_bars_by : Stmt := topS 74
abbrev n_bars_by : List Str := ["web", "told", "word", "thing"]
noncomputable def y_bars_by : Ss := sSeq (sIf (tst (ev2 gEq (evV 2) (evK (.str (Str.ofString "kind"))))) (sRt (evAnd (evIsi "str" (evV 3)) (evAnd (ev2 gIn (evV 3) (evCall m_kinds (aCons (evV
      0) (aNil)))) (ev2 gNotIn (evV 3) (evCall m_kinds (aCons (evV 1) (aNil))))))) (sNil)) (sSeq (sIf (tst (ev2 gEq (evV 2) (evK (.str (Str.ofString "width")))))
      (sRt (evAnd (evCall m_is_order (aCons (evV 0) (aCons (evV 3) (aNil)))) (ev2 gLt (evCall m_width (aCons (evV 0) (aCons (evV 3) (aNil)))) (ev2 gIx (evCall
      m_least_width (aCons (evV 1) (aNil))) (evK (.int 0)))))) (sNil)) (sSeq (sIf (tst (ev2 gEq (evV 2) (evK (.str (Str.ofString "spread"))))) (sRt (evAnd (evCall
      m_is_order (aCons (evV 0) (aCons (evV 3) (aNil)))) (ev2 gLt (evCall m_spread (aCons (evV 0) (aCons (evV 3) (aNil)))) (ev2 gIx (evCall m_least_spread (aCons
      (evV 1) (aNil))) (evK (.int 0)))))) (sNil)) (sSeq (sIf (tst (ev2 gEq (evV 2) (evK (.str (Str.ofString "book"))))) (sRt (evAnd (ev2 gLe (evCall (g1 fLen)
      (aCons (ev2 gIx (evV 0) (evK (.int 0))) (aNil))) (evK (.int 9))) (evCall m_shows_book (aCons (evV 0) (aCons (evV 1) (aCons (evK (.str (Str.ofString "any")))
      (aCons (evK .none) (aCons (evV 3) (aNil))))))))) (sNil)) (sRt (evK (.bool false))))))
noncomputable def m_bars_by : Fn := mkFn 4 4 y_bars_by
abbrev s_shows_barred : Stmt := topS 75
abbrev n_shows_barred : List Str := ["web", "told", "thing"]
noncomputable def y_shows_barred : Ss := sSeq (sIf (bOr (bNot (tst (evIsi "tuple" (evV 2)))) (bOr (tst (ev2 gEq (evCall (g1 fLen) (aCons (evV 2) (aNil))) (evK (.int 0)))) (bNot (tst (evIsi "str"
      (ev2 gIx (evV 2) (evK (.int 0)))))))) (sRt (evK (.bool false))) (sNil)) (sSeq (sIf (tst (ev2 gEq (evCall (g1 fLen) (aCons (evV 2) (aNil))) (evK (.int
      1)))) (sRt (evAnd (ev2 gEq (ev2 gIx (evV 2) (evK (.int 0))) (evK (.str (Str.ofString "count")))) (evCall m_has_more (aCons (evV 0) (aCons (evV 1) (aNil))))))
      (sNil)) (sSeq (sIf (tst (ev2 gEq (evCall (g1 fLen) (aCons (evV 2) (aNil))) (evK (.int 2)))) (sRt (evCall m_bars_by (aCons (evV 0) (aCons (evV 1) (aCons
      (ev2 gIx (evV 2) (evK (.int 0))) (aCons (ev2 gIx (evV 2) (evK (.int 1))) (aNil))))))) (sNil)) (sRt (evAnd (ev2 gEq (evCall (g1 fLen) (aCons (evV 2) (aNil)))
      (evK (.int 3))) (evAnd (ev2 gEq (ev2 gIx (evV 2) (evK (.int 0))) (evK (.str (Str.ofString "wall")))) (evCall m_bars_wall (aCons (evV 0) (aCons (evV 1)
      (aCons (ev2 gIx (evV 2) (evK (.int 1))) (aCons (ev2 gIx (evV 2) (evK (.int 2))) (aNil)))))))))))
noncomputable def m_shows_barred : Fn := mkFn 3 3 y_shows_barred
abbrev s_l_right : Stmt := topS 80
abbrev n_l_right : List Str := ["_law_web_here", "_law_told", "_law_thing", "_law_due", "_law_found"]
noncomputable def y_l_right : Ss := sSeq (sSet 4 (evCall m_shows_barred (aCons (evV 0) (aCons (evV 1) (aCons (evV 2) (aNil)))))) (sRt (evAnd (evIsi "bool" (evV 4)) (ev2 gEq (evV 4) (evV 3))))
noncomputable def m_l_right : Fn := mkFn 4 5 y_l_right
abbrev s_law : Stmt := topS 81
abbrev n_law : List Str := ["_law_script", "_law_words", "_law_k", "_law_pot_here", "_law_most", "_law_due", "_law_word", "_law_odd", "_law_web_here", "_law_told", "_law_thing"]
noncomputable def y_law : Ss := sSeq (sSet 1 (evLst (aCons (evK (.str (Str.ofString "bare"))) (aCons (evK (.str (Str.ofString "pairs"))) (aCons (evK (.str (Str.ofString "hub"))) (aCons
      (evK (.str (Str.ofString "stars"))) (aCons (evK (.str (Str.ofString "rows"))) (aCons (evK (.str (Str.ofString "combs"))) (aCons (evK (.str (Str.ofString
      "forest"))) (aCons (evK (.str (Str.ofString "rings"))) (aCons (evK (.str (Str.ofString "series"))) (aNil)))))))))))) (sSeq (sFo (iBy gRange1 (aCons (ev2
      gAdd (evCall (g1 fLen) (aCons (evSl (evV 0) (oNo) (oYes (evK (.int 6)))) (aNil))) (evK (.int 1))) (aNil))) (bName 2) (sSeq (sCell 3 (evCall m_l_pot (aCons
      (evV 0) (aCons (evV 2) (aNil))))) (sSeq (sSet 4 (ev2 gIx (evLst (aCons (evK (.int 10)) (aCons (evK (.int 25)) (aNil)))) (ev2 gDiv (evCall m_l_take (aCons
      (evV 3) (aCons (evK (.int 8)) (aNil)))) (evK (.int 7))))) (sSeq (sMul [8, 9] (aCons (evCall m_l_web (aCons (evV 3) (aCons (evCall m_l_take (aCons (evV
      3) (aCons (evV 4) (aNil)))) (aNil)))) (aCons (evCall m_l_web (aCons (evV 3) (aCons (ev2 gAdd (evK (.int 1)) (evCall m_l_take (aCons (evV 3) (aCons (evK
      (.int 5)) (aNil))))) (aNil)))) (aNil)))) (sSeq (sSet 5 (evOr (ev2 gGt (evCall (g1 fLen) (aCons (ev2 gIx (evV 9) (evK (.int 0))) (aNil))) (evCall (g1 fLen)
      (aCons (ev2 gIx (evV 8) (evK (.int 0))) (aNil)))) (ev2 gGt (evCall (g1 fLen) (aCons (ev2 gIx (evV 9) (evK (.int 1))) (aNil))) (evCall (g1 fLen) (aCons
      (ev2 gIx (evV 8) (evK (.int 1))) (aNil)))))) (sSeq (sIf (bNot (tst (evCall m_l_right (aCons (evV 8) (aCons (evV 9) (aCons (evTup (aCons (evK (.str (Str.ofString
      "count"))) (aNil))) (aCons (evV 5) (aNil)))))))) (sRt (evK (.bool false))) (sNil)) (sSeq (sFo (iSeq (evV 1)) (bName 6) (sSeq (sSet 5 (evAnd (evCall m_is_kind
      (aCons (evV 6) (aCons (evV 8) (aNil)))) (evNot (evCall m_is_kind (aCons (evV 6) (aCons (evV 9) (aNil))))))) (sSeq (sIf (bNot (tst (evCall m_l_right (aCons
      (evV 8) (aCons (evV 9) (aCons (evTup (aCons (evK (.str (Str.ofString "kind"))) (aCons (evV 6) (aNil)))) (aCons (evV 5) (aNil)))))))) (sRt (evK (.bool
      false))) (sNil)) (sFo (iSeq (evLst (aCons (evTup (aCons (evK (.str (Str.ofString "kind"))) (aCons (evV 6) (aCons (evV 6) (aNil))))) (aCons (evTup (aCons
      (evV 6) (aNil))) (aCons (evTup (aCons (evK (.str (Str.ofString "kind"))) (aCons (evTup (aCons (evV 6) (aNil))) (aNil)))) (aCons (evTup (aCons (evK (.str
      (Str.ofString "kinds"))) (aCons (evV 6) (aNil)))) (aCons (evLst (aCons (evK (.str (Str.ofString "kind"))) (aCons (evV 6) (aNil)))) (aNil)))))))) (bName
      10) (sIf (bNot (tst (evCall m_l_right (aCons (evV 8) (aCons (evV 9) (aCons (evV 10) (aCons (evK (.bool false)) (aNil)))))))) (sRt (evK (.bool false)))
      (sNil)))))) (sSeq (sSet 7 (evLst (aCons (evTup (aCons (evK (.str (Str.ofString "count"))) (aCons (evTup (aNil)) (aNil)))) (aCons (evTup (aCons (evK (.str
      (Str.ofString "count"))) (aCons (evK .none) (aNil)))) (aCons (evLst (aCons (evK (.str (Str.ofString "count"))) (aNil))) (aCons (evK (.str (Str.ofString
      "count"))) (aCons (evTup (aCons (evK (.str (Str.ofString "Count"))) (aNil))) (aCons (evTup (aCons (evK (.str (Str.ofString "kind"))) (aNil))) (aCons (evTup
      (aCons (evK (.str (Str.ofString "kind"))) (aCons (evK (.str (Str.ofString ""))) (aNil)))) (aCons (evTup (aCons (evK (.str (Str.ofString "kind"))) (aCons
      (evK .none) (aNil)))) (aNil))))))))))) (sSeq (sSet 7 (ev2 gAdd (evV 7) (evLst (aCons (evTup (aCons (evK (.str (Str.ofString "kind"))) (aCons (evK (.str
      (Str.ofString "tree"))) (aNil)))) (aCons (evTup (aCons (evK (.str (Str.ofString "kind"))) (aCons (evK (.int 0)) (aNil)))) (aCons (evTup (aCons (evK (.str
      (Str.ofString "kind"))) (aCons (evK (.bool true)) (aNil)))) (aCons (evTup (aCons (evK (.str (Str.ofString "kind"))) (aCons (evV 1) (aNil)))) (aCons (evTup
      (aCons (evK (.str (Str.ofString "kind"))) (aCons (evCall (g1 fTuple) (aCons (evV 1) (aNil))) (aNil)))) (aCons (evTup (aNil)) (aNil)))))))))) (sIf (bNot
      (tst (evCall (g1 fAll) (aCons (evComp (iSeq (evV 7)) (bName 10) (bYes) (evCall m_l_right (aCons (evV 8) (aCons (evV 9) (aCons (evV 10) (aCons (evK (.bool
      false)) (aNil)))))) [10]) (aNil))))) (sRt (evK (.bool false))) (sNil))))))))))) (sRt (evK (.bool true))))
noncomputable def m_law : Fn := mkFn 1 11 y_law
end Z
set_option Elab.async false
set_option linter.all false
set_option maxRecDepth 100000
set_option maxHeartbeats 1000000
/-! Family Q: the pot is a list of digits, seed, turn (k50 and its like): _law_pot, _law_take -/
namespace Z
open PySem PySem.Spec PyProof.Rows L2 MV
local macro_rules | `(tactic| simp_arith [$ls,*]) => `(tactic| simp only [e_V, e_K, e_2, e_tst, e_bAnd, e_bOr, e_bNot, e_And, e_Or, e_Not, e_If, e_Un, e_Chain, e_aNil, e_aCons, e_Tup, e_Lst, datas_nil, datas_d, e_Call, e_sNil, e_sBk, e_sCt, e_sEx, e_sRt, e_sRtN, e_sIf, e_sSet, e_sCell, e_sAsg, e_sPar, e_sPar3, e_sMul, e_setAll, e_setAll0, e_aCell, e_sPut, e_sAug, e_Isi, e_oNo, e_oYes, e_Sl, go_name, go_tup, goL_nil, goL_cons, go_P, go_W, e_bYes, th_d, th_c, th_z, th_f, th_fd, data_lst, data_dic, bind_ok, wp_ok, if_true, if_false, ite_true, ite_false, decide_true, decide_false, Bool.not_true, Bool.not_false, Bool.false_eq_true, Bool.true_eq_false, List.getElem?_cons_zero, List.getElem?_cons_succ, List.set_cons_zero, List.set_cons_succ, List.map_cons, List.map_nil, List.replicate, List.cons_append, List.nil_append, Option.map_some, List.length_cons, List.length_nil, Nat.reduceAdd, Nat.reduceSub, Nat.reduceLeDiff, Nat.zero_le, Nat.zero_add, o_sub, o_add, o_lt, o_le, o_gt, o_ge, o_eqI, o_neI, o_eqS, o_neS, g_lenT, g_lenL, g_lenZ, g_tupT, g_tupL, g_listT, g_listL, g_intB, g_intI, g_min2, g_max2, e_Dic0, e_dNil, e_dCons, BEq.rfl, $ls,*])
local macro_rules | `(tactic| simp_all_arith [$ls,*]) => `(tactic| (refine wp_seq fun K kn kr => ?_; simp_arith [$ls,*]; (first | refine kn _ _ ?_ | refine kr _ _ ?_); clear kn kr K))
theorem hzQ : (1000 : Nat) ≤ sizeLine := by decide
def potQ (g s t : Int) : Cell := .lst (dI [g, s, t])
structure QOk (c : Nat) (g s t : Int) : Prop where
  g0 : 0 ≤ g
  s0 : 0 ≤ s
  s1 : s < 2147483629
  t0 : 0 ≤ t
  t1 : t ≤ c
/-- from S to T only the pot at n and new cells came otherwise -/
structure Pq (S : Sto) (n c : Nat) (T : Sto) : Prop where
  le : S.length ≤ T.length
  old : ∀ j, j < S.length → j ≠ n → T[j]? = S[j]?
  nS : n < S.length
  pot : ∃ g s t, T[n]? = some (potQ g s t) ∧ QOk c g s t
section
variable {S T T' : Sto} {n c c' : Nat} {g s t y : Int} {k : Int} {L : Sto}
theorem QOk.up (h : QOk c g s t) (le : c ≤ c') : QOk c' g s t := ⟨h.g0, h.s0, h.s1, h.t0, by have := h.t1; omega⟩
theorem Pq.up (h : Pq S n c T) (le : c ≤ c') : Pq S n c' T := by
  obtain ⟨h1, h2, h3, g, s, t, h4, h5⟩ := h
  exact ⟨h1, h2, h3, g, s, t, h4, h5.up le⟩
theorem Pq.trans (h : Pq S n c T) (k : Pq T n c' T') : Pq S n c' T' :=
  ⟨Nat.le_trans h.le k.le, fun j h1 h2 => by rw [k.old j (by have := h.le; omega) h2, h.old j h1 h2], h.nS, k.pot⟩
theorem Pq.app (h : Pq S n c T) : Pq S n c (T ++ L) := by
  have hn : n < T.length := by have := h.le; have := h.nS; omega
  obtain ⟨g, s, t, h5, h7⟩ := h.pot
  refine ⟨by rw [List.length_append]; have := h.le; omega, fun j h1 h2 => ?_, h.nS, g, s, t, ?_, h7⟩
  · rw [List.getElem?_append_left (by have := h.le; omega), h.old j h1 h2]
  · rw [List.getElem?_append_left hn, h5]
theorem Pq.cut (h : Pq S n c T) : Pq S n c (T.take S.length) := by
  obtain ⟨g, s, t, h5, h7⟩ := h.pot
  refine ⟨by rw [List.length_take]; have := h.le; omega, fun j h1 h2 => ?_, h.nS, g, s, t, ?_, h7⟩
  · rw [List.getElem?_take_of_lt h1, h.old j h1 h2]
  · rw [List.getElem?_take_of_lt h.nS, h5]
theorem Pq.cut_len (h : Pq S n c T) : (T.take S.length).length = S.length := by
  rw [List.length_take]
  have := h.le
  omega
theorem Pq.set (h : Pq S n c T) {j : Nat} {x : Cell} (hj : S.length ≤ j) : Pq S n c (T.set j x) := by
  have hn := h.nS
  obtain ⟨g, s, t, h5, h7⟩ := h.pot
  refine ⟨by rw [List.length_set]; exact h.le, fun i h1 h2 => ?_, h.nS, g, s, t, ?_, h7⟩
  · rw [List.getElem?_set_ne (by omega), h.old i h1 h2]
  · rw [List.getElem?_set_ne (by omega), h5]
theorem Pq.self (h : Pq S n c T) : Pq T n c T := ⟨Nat.le_refl _, fun _ _ _ => rfl, by have := h.le; have := h.nS; omega, h.pot⟩
theorem Pq.at_ (h : Pq S n c T) {j : Nat} {x : Cell} (hj : S[j]? = some x) (h2 : j ≠ n) : T[j]? = some x := by
  have : j < S.length := (List.getElem?_eq_some_iff.mp hj).1
  rw [h.old j this h2, hj]
theorem q_ix0 (h : T[n]? = some (potQ g s t)) : gIx (.c n) (.d (.int 0)) T = .ok (.d (.int g)) T := by
  rw [o_ixC h, show atI (dI [g, s, t]) 0 = some (.int g) from at_nat (by decide) rfl]
theorem q_ix1 (h : T[n]? = some (potQ g s t)) : gIx (.c n) (.d (.int 1)) T = .ok (.d (.int s)) T := by
  rw [o_ixC h, show atI (dI [g, s, t]) 1 = some (.int s) from at_nat (by decide) rfl]
theorem q_ix2 (h : T[n]? = some (potQ g s t)) : gIx (.c n) (.d (.int 2)) T = .ok (.d (.int t)) T := by
  rw [o_ixC h, show atI (dI [g, s, t]) 2 = some (.int t) from at_nat (by decide) rfl]
theorem q_put0 (h : T[n]? = some (potQ g s t)) : gPut (.c n) (.d (.int 0)) (.d (.int y)) T = some (T.set n (potQ y s t)) := put_c (j := 0) h (by simp [ixN])
theorem q_put1 (h : T[n]? = some (potQ g s t)) : gPut (.c n) (.d (.int 1)) (.d (.int y)) T = some (T.set n (potQ g y t)) := put_c (j := 1) h (by simp [ixN])
theorem q_put2 (h : T[n]? = some (potQ g s t)) : gPut (.c n) (.d (.int 2)) (.d (.int y)) T = some (T.set n (potQ g s y)) := put_c (j := 2) h (by simp [ixN])
theorem q_set (hn : n < T.length) (ok : QOk c g s t) : Pq T n c (T.set n (potQ g s t)) :=
  ⟨by simp, fun j _ h2 => by rw [List.getElem?_set_ne (Ne.symm h2)], hn, g, s, t, by rw [List.getElem?_set_self hn], ok⟩
theorem takeQ (h : Pq S n c T) (hc : c ≤ 1000000) (k0 : 0 < k) (k1 : k < 1152921504606846976) : ∃ T' r, m_l_take [.c n, .d (.int k)] T = .ok (.d (.int r)) T' ∧ Pq T n (c + 1) T' ∧ T'.length = T.length ∧ 0 ≤ r ∧ r < k := by
  have hz := hzQ
  have hn : n < T.length := by have := h.le; have := h.nS; omega
  obtain ⟨g, s, t, h5, ok⟩ := h.pot
  suffices w : wp (m_l_take [.c n, .d (.int k)] T) fun v T' => ∃ r, v = .d (.int r) ∧ Pq T n (c + 1) T' ∧ T'.length = T.length ∧ 0 ≤ r ∧ r < k by
    obtain ⟨v, T1, e1, r, rfl, h2⟩ := w.ex
    exact ⟨T1, r, e1, h2⟩
  obtain ⟨g0, s0, s1, t0, t1⟩ := ok
  have md : ∀ x : Int, 0 ≤ x % k ∧ x % k < k := fun x => ⟨Int.emod_nonneg _ (by omega), Int.emod_lt_of_pos _ k0⟩
  refine wp_fn rfl ?_
  simp only [List.map_cons, List.map_nil, List.replicate, List.cons_append, List.nil_append, Nat.reduceSub]
  have i0 := q_ix0 h5
  refine wp_seq fun K kn kr => ?_
  by_cases c0 : 0 < g
  · simp_arith [i0, c0]
    refine wp_seqN fun K1 kn1 => ?_
    simp_arith [i0, o_mod k0]
    refine kn1 _ _ ?_
    clear kn1 K1
    refine wp_seqN fun K1 kn1 => ?_
    simp_arith [i0, o_div k0 k1, q_put0 h5]
    refine kn1 _ _ ?_
    clear kn1 K1
    simp_arith []
    refine kr _ _ (wp_out_d ?_)
    rw [tk_set]
    exact ⟨_, rfl, q_set hn ⟨Int.ediv_nonneg g0 (by omega), s0, s1, t0, by omega⟩, by simp, (md g).1, (md g).2⟩
  · simp_arith [i0, c0]
    refine kn _ _ ?_
    clear kn kr K
    have i2 := q_ix2 h5
    refine wp_seqN fun K kn => ?_
    simp_arith [i2, q_put2 h5]
    refine kn _ _ ?_
    clear kn K
    have h6 : (T.set n (potQ g s (t + 1)))[n]? = some (potQ g s (t + 1)) := List.getElem?_set_self hn
    have j1 := q_ix1 h6
    have j2 := q_ix2 h6
    refine wp_seqN fun K kn => ?_
    have b := mod_in (s * 48271 + 101 * (t + 1) + 5) 2147483629 (by decide)
    have ml : ∀ (U : Sto), gMul (.d (.int 101)) (.d (.int (t + 1))) U = .ok (.d (.int (101 * (t + 1)))) U := fun U => o_mulL (by decide) (by decide)
    have ml2 : ∀ (U : Sto), gMul (.d (.int s)) (.d (.int 48271)) U = .ok (.d (.int (s * 48271))) U := fun U => o_mulR (by decide) (by decide)
    have md1 : ∀ (i : Int) (U : Sto), gMod (.d (.int i)) (.d (.int 2147483629)) U = .ok (.d (.int (i % 2147483629))) U := fun i U => o_mod (by decide)
    have md2 : ∀ (i : Int) (U : Sto), gMod (.d (.int i)) (.d (.int 32003)) U = .ok (.d (.int (i % 32003))) U := fun i U => o_mod (by decide)
    have md3 : ∀ (i : Int) (U : Sto), gMod (.d (.int i)) (.d (.int 2147483587)) U = .ok (.d (.int (i % 2147483587))) U := fun i U => o_mod (by decide)
    have dv1 : ∀ (i : Int) (U : Sto), gDiv (.d (.int i)) (.d (.int 13)) U = .ok (.d (.int (i / 13))) U := fun i U => o_div (by decide) (by decide)
    simp_arith [j1, j2, ml, ml2, md1, q_put1 h6]
    refine kn _ _ ?_
    clear kn K
    rw [List.set_set]
    generalize (s * 48271 + 101 * (t + 1) + 5) % 2147483629 = s' at b
    have h7 : (T.set n (potQ g s' (t + 1)))[n]? = some (potQ g s' (t + 1)) := List.getElem?_set_self hn
    have j3 := q_ix1 h7
    have ml3 : ∀ (j : Int) (U : Sto), gMul (.d (.int s')) (.d (.int j)) U = .ok (.d (.int (s' * j))) U := fun j U => o_mulL (by omega) (by omega)
    simp_arith [j3, ml3, md2, md3, dv1, o_mod k0]
    refine wp_out_d ?_
    rw [tk_set]
    exact ⟨_, rfl, q_set hn ⟨g0, b.1, b.2, by omega, by omega⟩, by simp, (md _).1, (md _).2⟩
theorem potQ_wp (ns : List Int) (k : Nat) (hk : k ≤ 100) (hl : ns.length ≤ 1000) (S : Sto) : wp (m_l_pot [.z (dI ns), .d (.int (k : Int))] S) fun v S' => S' = S ∧ ∃ g s, v = .f (potQ g s 0) ∧ QOk 0 g s 0 := by
  have hz := hzQ
  refine wp_fn rfl ?_
  simp only [List.map_cons, List.map_nil, List.replicate, List.cons_append, List.nil_append, Nat.reduceSub]
  have p1 : ∀ T, gPow (.d (.int 10)) (.d (.int 60)) T = .ok (.d (.int (10 ^ 60))) T := fun T => o_pow (by decide +kernel)
  have p3 : ∀ T, gPow (.d (.int 10)) (.d (.int 18)) T = .ok (.d (.int (10 ^ 18))) T := fun T => o_pow (by decide +kernel)
  have mk : ∀ j, j < 10 → mulOk ((10 ^ 60) ^ j) (10 ^ 60) = true := by decide +kernel
  have lz : (dI ns).length = ns.length := by simp
  refine wp_seqN fun K kn => ?_
  simp_arith []
  refine kn _ _ ?_
  clear kn K
  refine wp_seqN fun K kn => ?_
  have fin : ∀ a : Int, K (.nx [some (.z (dI ns)), some (.d (.int (k : Int))), some (.d (.int a)), none, none, none]) S := by
    intro a
    refine kn _ _ ?_
    clear kn K
    refine wp_seqN fun K kn => ?_
    simp_arith []
    refine kn _ _ ?_
    clear kn K
    refine wp_seqN fun K kn => ?_
    refine wp_forK (fun (pre : List Nat) ρ V => ∃ o4, ρ = [some (.z (dI ns)), some (.d (.int (k : Int))), some (.d (.int a)), some (.d (.int ((10 ^ 60) ^ pre.length))), o4, none] ∧ V = S) (List.range 10) (fun (i : Nat) => .int (0 + (i : Int))) (s := ⟨iota 0 10, []⟩) (S1 := S) (by simp_arith [e_iBy, e_range1 (j := 10) (by omega) (by omega)]; rfl) rfl (fun _ _ _ _ => gok_nil) ⟨none, rfl, rfl⟩ ?_ ?_
    · rintro pre x post ρ V ex ⟨o4, rfl, rfl⟩
      obtain ⟨hx1, hx2⟩ := range_at ex
      have pl : pre.length < 10 := by omega
      refine ⟨_, rfl, fun K k1 k2 => ?_⟩
      generalize hf : ((10 ^ 60) ^ pre.length : Int) = far
      have mm : mulOk far (10 ^ 60) = true := by rw [← hf]; exact mk _ pl
      simp only [go_name, List.set_cons_succ, List.set_cons_zero]
      simp_arith [p1, o_mul mm]
      exact k1 _ _ ⟨_, by rw [List.length_append, List.length_singleton, show ((10 ^ 60) ^ (pre.length + 1) : Int) = (10 ^ 60) ^ pre.length * 10 ^ 60 from Int.pow_succ _ _, hf], rfl⟩
    · rintro ρ V ⟨o4, rfl, rfl⟩
      refine kn _ _ ?_
      clear kn K
      have far0 : (0 : Int) < (10 ^ 60) ^ (List.range 10).length := by decide +kernel
      generalize ((10 ^ 60) ^ (List.range 10).length : Int) = far at far0
      refine wp_seqN fun K kn => ?_
      have ab := g_abs (i := a) (S := V)
      have lg : g1 fLen [.z (dI ns)] V = .ok (.d (.int (ns.length : Int))) V := by rw [g_lenZ, lz]
      generalize hA : (if a < 0 then -a else a) = A at ab
      have tt : ∃ b : Bool, evAnd (ev2 gGe (evCall (g1 fAbs) (aCons (evV 2) (aNil))) (ev2 gPow (evK (.int 10)) (evK (.int 18)))) (ev2 gLt (evV 1) (evCall (g1 fLen) (aCons (evV 0) (aNil)))) [some (.z (dI ns)), some (.d (.int (k : Int))), some (.d (.int a)), some (.d (.int far)), o4, none] V = .ok (.d (.bool b)) V := by
        rw [e_And, e_tst]
        by_cases c1 : (10 : Int) ^ 18 ≤ A
        · simp_arith [ab, p3, lz, c1]
          exact ⟨_, rfl⟩
        · simp_arith [ab, p3, lz, c1]
          exact ⟨_, rfl⟩
      obtain ⟨b, tt⟩ := tt
      have md0 : 0 ≤ A % far := Int.emod_nonneg _ (by omega)
      revert tt
      generalize evAnd _ _ = sx
      intro tt
      simp_arith [ab, o_mod far0, tt]
      have ml : ∀ (j : Int) (U : Sto), gMul (.d (.int j)) (.d (.int (if b = true then 1 else 0))) U = .ok (.d (.int (j * (if b = true then 1 else 0)))) U := fun j U => o_mulR (by split <;> decide) (by split <;> decide)
      simp_arith [ml]
      refine kn _ _ ?_
      clear kn K
      have ml1 : ∀ (j : Int) (U : Sto), gMul (.d (.int j)) (.d (.int (k : Int))) U = .ok (.d (.int (j * k))) U := fun j U => o_mulR (by omega) (by omega)
      have ml2 : ∀ (j : Int) (U : Sto), gMul (.d (.int j)) (.d (.int 39373)) U = .ok (.d (.int (j * 39373))) U := fun j U => o_mulR (by decide) (by decide)
      have md1 : ∀ (i : Int) (U : Sto), gMod (.d (.int i)) (.d (.int 2147483629)) U = .ok (.d (.int (i % 2147483629))) U := fun i U => o_mod (by decide)
      have md3 : ∀ (i : Int) (U : Sto), gMod (.d (.int i)) (.d (.int 2147483587)) U = .ok (.d (.int (i % 2147483587))) U := fun i U => o_mod (by decide)
      simp_arith [ml1, ml2, md1, md3]
      refine wp_out_f ⟨tk_self, _, _, rfl, ?_, (mod_in _ _ (by decide)).1, (mod_in _ _ (by decide)).2, by decide, by decide⟩
      split
      · simpa using md0
      · simp
  by_cases c0 : (0 : Int) < (ns.length : Int)
  · have k0 : (0 : Int) < (ns.length : Int) := c0
    have m1 : 0 ≤ (k : Int) % (ns.length : Int) ∧ (k : Int) % (ns.length : Int) < (ns.length : Int) := ⟨Int.emod_nonneg _ (by omega), Int.emod_lt_of_pos _ k0⟩
    obtain ⟨y, -, hy⟩ := at_ex (xs := ns) m1.1 m1.2
    have ix : gIx (.z (dI ns)) (.d (.int ((k : Int) % (ns.length : Int)))) S = .ok (.d (.int y)) S := by rw [o_ixZ, hy]
    have lg : g1 fLen [.z (dI ns)] S = .ok (.d (.int (ns.length : Int))) S := by rw [g_lenZ, lz]
    simp_arith [lz, c0, o_mod k0, ix]
    exact fin _
  · have lg : g1 fLen [.z (dI ns)] S = .ok (.d (.int (ns.length : Int))) S := by rw [g_lenZ, lz]
    simp_arith [lz, c0]
    exact fin _
end
end Z
set_option Elab.async false
set_option linter.all false
set_option maxRecDepth 100000
set_option maxHeartbeats 1000000
/-! Webs as graphs; dicts of numbers asked. -/
namespace Z
open PySem PySem.Spec PyProof.Rows L2 MV
def nearL (W : Web) (p : Int) : List Int := isort ((W.2.filter fun t => t.2 == p).map (·.1) ++ (W.2.filter fun t => t.1 == p).map (·.2))
def nbr (W : Web) (a b : Int) : Prop := (a, b) ∈ W.2 ∨ (b, a) ∈ W.2
theorem nbr.symm {W : Web} {a b : Int} (h : nbr W a b) : nbr W b a := h.elim .inr .inl
theorem mem_tiedL {W : Web} {a b : Int} : (b ∈ (W.2.filter fun t => t.1 == a).map (·.2) ++ (W.2.filter fun t => t.2 == a).map (·.1)) ↔ nbr W a b := by
  rw [List.mem_append, List.mem_map, List.mem_map]
  constructor
  · rintro (⟨⟨x, y⟩, h, rfl⟩ | ⟨⟨x, y⟩, h, rfl⟩)
    · rw [List.mem_filter] at h
      have e : x = a := by simpa using h.2
      subst e
      exact .inl h.1
    · rw [List.mem_filter] at h
      have e : y = a := by simpa using h.2
      subst e
      exact .inr h.1
  · rintro (h | h)
    · exact .inl ⟨(a, b), List.mem_filter.mpr ⟨h, by simp⟩, rfl⟩
    · exact .inr ⟨(b, a), List.mem_filter.mpr ⟨h, by simp⟩, rfl⟩
theorem mem_nearL {W : Web} {a b : Int} : b ∈ nearL W a ↔ nbr W a b := by
  unfold nearL
  rw [mem_isort, ← mem_tiedL]
  simp only [List.mem_append]
  exact or_comm
theorem nearL_le (W : Web) (a : Int) : (nearL W a).Pairwise (· ≤ ·) := isort_le _
theorem nearL_length (W : Web) (a : Int) : (nearL W a).length ≤ 2 * W.2.length := by
  unfold nearL
  have h1 := List.length_filter_le (fun t : Int × Int => t.2 == a) W.2
  have h2 := List.length_filter_le (fun t : Int × Int => t.1 == a) W.2
  simp
  omega
/-! ### dicts of numbers asked -/
def lookK (kvs : List (Int × PyData)) (k : Int) : Option PyData := (kvs.find? fun p => p.1 == k).map (·.2)
section
variable {S : Sto} {v : Val} {kvs : List (Int × PyData)}
theorem in_dicV (k : Int) (h : asM S v = some (dK kvs)) : gIn (.d (.int k)) v S = .ok (.d (.bool (hasK kvs k))) S := by
  unfold gIn isIn
  rw [h]
  simp [look_has]
theorem notIn_dicV (k : Int) (h : asM S v = some (dK kvs)) : gNotIn (.d (.int k)) v S = .ok (.d (.bool (!hasK kvs k))) S := by
  unfold gNotIn isIn
  rw [h]
  simp [look_has]
theorem get2_dicV (k : Int) (y : PyData) (h : asM S v = some (dK kvs)) : gGet v [.d (.int k), .d y] S = .ok (.d ((lookK kvs k).getD y)) S := by
  unfold gGet
  rw [h]
  simp [look_dK, lookK]
theorem get1_dicV (k : Int) (h : asM S v = some (dK kvs)) : gGet v [.d (.int k)] S = .ok (.d ((lookK kvs k).getD .none)) S := by
  unfold gGet
  rw [h]
  simp [look_dK, lookK]
@[simp] theorem ty_dictD {ps : List (PyData × PyData)} : tyB "dict" S (.d (.dict ps)) = true := rfl
theorem ix_dicD {k : Int} {y : PyData} (e : lookK kvs k = some y) : gIx (.d (.dict (dK kvs))) (.d (.int k)) S = .ok (.d y) S := by
  unfold gIx
  simp [asM, look_dK]
  unfold lookK at e
  rw [e]
end
section
variable {S : Sto} {n : Nat} {kvs : List (Int × PyData)}
theorem in_dic (k : Int) (h : S[n]? = some (.dic (dK kvs))) : gIn (.d (.int k)) (.c n) S = .ok (.d (.bool (hasK kvs k))) S := by
  unfold gIn isIn
  simp [h, look_has]
theorem notIn_dic (k : Int) (h : S[n]? = some (.dic (dK kvs))) : gNotIn (.d (.int k)) (.c n) S = .ok (.d (.bool (!hasK kvs k))) S := by
  unfold gNotIn isIn
  simp [h, look_has]
theorem get2_dic (k : Int) (y : PyData) (h : S[n]? = some (.dic (dK kvs))) : gGet (.c n) [.d (.int k), .d y] S = .ok (.d ((lookK kvs k).getD y)) S := by
  unfold gGet
  simp [h, look_dK, lookK]
theorem get1_dic (k : Int) (h : S[n]? = some (.dic (dK kvs))) : gGet (.c n) [.d (.int k)] S = .ok (.d ((lookK kvs k).getD .none)) S := by
  unfold gGet
  simp [h, look_dK, lookK]
theorem ix_dic {k : Int} {y : PyData} (h : S[n]? = some (.dic (dK kvs))) (e : lookK kvs k = some y) : gIx (.c n) (.d (.int k)) S = .ok (.d y) S := by
  unfold gIx
  simp [asM, h, look_dK]
  unfold lookK at e
  rw [e]
theorem put_dK {k : Int} {y : PyData} (h : S[n]? = some (.dic (dK kvs))) (hl : kvs.length < sizeLine) : gPut (.c n) (.d (.int k)) (.d y) S = some (S.set n (.dic (dK (putK1 kvs k y)))) := by
  rw [put_dic (k := .inl k) h rfl (by unfold dK; rw [List.length_map]; exact hl), putD_dK]
theorem put_new {k : Int} {y : PyData} (h : hasK kvs k = false) : putK1 kvs k y = kvs ++ [(k, y)] := by unfold putK1; rw [h]; rfl
end
theorem hasK_iff {kvs : List (Int × PyData)} {k : Int} : hasK kvs k = true ↔ k ∈ kvs.map (·.1) := by
  unfold hasK
  rw [List.any_eq_true, List.mem_map]
  constructor
  · rintro ⟨p, h, e⟩
    exact ⟨p, h, by simpa using e⟩
  · rintro ⟨p, h, e⟩
    exact ⟨p, h, by simpa using e⟩
theorem lookK_of {kvs : List (Int × PyData)} (nd : (kvs.map (·.1)).Nodup) {k : Int} {y : PyData} (h : (k, y) ∈ kvs) : lookK kvs k = some y := by
  unfold lookK
  induction kvs with
  | nil => cases h
  | cons p r ih =>
    rw [List.find?_cons]
    rw [List.map_cons, List.nodup_cons] at nd
    rcases List.mem_cons.mp h with rfl | h
    · simp
    · have ne : (p.1 == k) = false := by
        rw [beq_eq_false_iff_ne]
        intro e
        exact nd.1 (List.mem_map.mpr ⟨_, h, e.symm⟩)
      rw [ne]
      exact ih nd.2 h
theorem lookK_mem {kvs : List (Int × PyData)} {k : Int} {y : PyData} (h : lookK kvs k = some y) : (k, y) ∈ kvs := by
  unfold lookK at h
  cases e : kvs.find? fun p => p.1 == k with
  | none => rw [e] at h; cases h
  | some p =>
    rw [e] at h
    have q := List.find?_some e
    have m := List.mem_of_find?_eq_some e
    have e1 : p.1 = k := by simpa using q
    have e2 : p.2 = y := Option.some.inj h
    rw [← e1, ← e2]
    exact m
theorem lookK_none {kvs : List (Int × PyData)} {k : Int} : lookK kvs k = none ↔ hasK kvs k = false := by
  unfold lookK hasK
  rw [Option.map_eq_none_iff, List.find?_eq_none, List.any_eq_false]
end Z
set_option Elab.async false
set_option linter.all false
set_option maxRecDepth 100000
set_option maxHeartbeats 1000000
/-! for each place the list of those tied to it (tied_to, and the laws' own) -/
namespace Z
open PySem PySem.Spec PyProof.Rows L2 MV
local macro_rules | `(tactic| simp_arith [$ls,*]) => `(tactic| simp only [e_V, e_K, e_2, e_tst, e_bAnd, e_bOr, e_bNot, e_And, e_Or, e_Not, e_If, e_Un, e_Chain, e_aNil, e_aCons, e_Tup, e_Lst, datas_nil, datas_d, e_Call, e_sNil, e_sBk, e_sCt, e_sEx, e_sRt, e_sRtN, e_sIf, e_sSet, e_sCell, e_sAsg, e_sPar, e_sPar3, e_sMul, e_setAll, e_setAll0, e_aCell, e_sPut, e_sAug, e_Isi, e_oNo, e_oYes, e_Sl, go_name, go_tup, goL_nil, goL_cons, go_P, go_W, e_bYes, th_d, th_c, th_z, th_f, th_fd, data_lst, data_dic, bind_ok, wp_ok, if_true, if_false, ite_true, ite_false, decide_true, decide_false, Bool.not_true, Bool.not_false, Bool.false_eq_true, Bool.true_eq_false, List.getElem?_cons_zero, List.getElem?_cons_succ, List.set_cons_zero, List.set_cons_succ, List.map_cons, List.map_nil, List.replicate, List.cons_append, List.nil_append, Option.map_some, List.length_cons, List.length_nil, Nat.reduceAdd, Nat.reduceSub, Nat.reduceLeDiff, Nat.zero_le, Nat.zero_add, o_sub, o_add, o_lt, o_le, o_gt, o_ge, o_eqI, o_neI, o_eqS, o_neS, g_lenT, g_lenL, g_lenZ, g_tupT, g_tupL, g_listT, g_listL, g_intB, g_intI, g_min2, g_max2, e_Dic0, e_dNil, e_dCons, BEq.rfl, $ls,*])
local macro_rules | `(tactic| simp_all_arith [$ls,*]) => `(tactic| (refine wp_seq fun K kn kr => ?_; simp_arith [$ls,*]; (first | refine kn _ _ ?_ | refine kr _ _ ?_); clear kn kr K))
/-! keys with cells -/
def keyC : Nat → List Int → List (Key × Itm)
  | _, [] => []
  | n, p :: P => (.inl p, .c n) :: keyC (n + 1) P
theorem keysFor_dI : ∀ (n : Nat) (P : List Int), keysFor n (dI P) = some (keyC n P)
  | _, [] => rfl
  | n, p :: P => by
    have ih := keysFor_dI (n + 1) P
    unfold dI at ih ⊢
    rw [List.map_cons, keysFor, kOf_int, ih]
    rfl
theorem keyC_fst : ∀ (n : Nat) (P : List Int), (keyC n P).map (·.1) = P.map Sum.inl
  | _, [] => rfl
  | n, p :: P => by rw [keyC, List.map_cons, keyC_fst, List.map_cons]
theorem rLook_none {ps : List (Key × Itm)} {k : Key} (h : k ∉ ps.map (·.1)) : rLook ps k = none := by
  unfold rLook
  rw [List.find?_eq_none.mpr fun p hp e => h (List.mem_map.mpr ⟨p, hp, of_decide_eq_true e⟩)]
  rfl
theorem rputs_new : ∀ {qs ps : List (Key × Itm)}, ((ps ++ qs).map (·.1)).Nodup → rPutAll ps qs = ps ++ qs
  | [], ps, _ => by rw [rPutAll, List.append_nil]
  | q :: qs, ps, nd => by
    have no : q.1 ∉ ps.map (·.1) := fun m => by
      rw [List.map_append, List.nodup_append] at nd
      exact nd.2.2 q.1 m q.1 (by simp) rfl
    have e : rPut ps q.1 q.2 = ps ++ [q] := by
      unfold rPut
      rw [rLook_none no]
      rfl
    rw [rPutAll, e, rputs_new (by simpa using nd)]
    simp
theorem keyC_puts {n : Nat} {P : List Int} (nd : P.Nodup) : rPutAll [] (keyC n P) = keyC n P := by
  rw [rputs_new (by
    rw [List.nil_append, keyC_fst]
    rw [List.nodup_iff_pairwise_ne, List.pairwise_map]
    exact (List.nodup_iff_pairwise_ne.mp nd).imp fun h e => h (Sum.inl.inj e))]
  rfl
theorem idx_ne {α : Type} [DecidableEq α] {p a : α} {P : List α} (e : ¬ p = a) : (p :: P).idxOf a = P.idxOf a + 1 := by
  rw [List.idxOf_cons]
  have : (p == a) = false := by simpa using e
  rw [this]
  rfl
theorem keyC_look {a : Int} : ∀ {n : Nat} {P : List Int}, a ∈ P → rLook (keyC n P) (.inl a) = some (.c (n + P.idxOf a))
  | _, [], h => by cases h
  | n, p :: P, h => by
    unfold rLook
    rw [keyC, List.find?_cons]
    by_cases e : p = a
    · subst e
      simp
    · have e2 : decide ((Sum.inl p : Key) = Sum.inl a) = false := decide_eq_false fun q => e (Sum.inl.inj q)
      have hm : a ∈ P := (List.mem_cons.mp h).resolve_left (Ne.symm e)
      have ih := keyC_look (n := n + 1) hm
      unfold rLook at ih
      simp only [e2]
      rw [ih, idx_ne e]
      congr 2
      omega
theorem pairsI_ : ∀ kvs : List (Int × PyData), pairsOf (kvs.map fun p => .tuple [.int p.1, p.2]) = some (kvs.map fun p => (Sum.inl p.1, p.2))
  | [] => rfl
  | a :: R => by
    have ih := pairsI_ R
    rw [List.map_cons, List.map_cons, MV.pairsOf, ih]
    rfl
theorem putAllI : ∀ (kvs acc : List (Int × PyData)), ((acc ++ kvs).map (·.1)).Nodup → putAll (dK acc) (kvs.map fun p => (Sum.inl p.1, p.2)) = dK (acc ++ kvs)
  | [], acc, _ => by simp [MV.putAll]
  | a :: R, acc, h => by
    have h2 : a.1 ∉ acc.map (·.1) := fun m => by
      rw [List.map_append, List.nodup_append] at h
      exact h.2.2 a.1 m a.1 (by simp) rfl
    have h3 : hasK acc a.1 = false := by
      cases q : hasK acc a.1 with
      | false => rfl
      | true => exact (h2 (hasK_iff.mp q)).elim
    rw [List.map_cons, MV.putAll, putD_dK, put_new h3, putAllI R (acc ++ [a]) (by simpa using h)]
    simp
theorem dictI {kvs : List (Int × PyData)} (nd : (kvs.map (·.1)).Nodup) {S : Sto} : gDict [.d (.list (kvs.map fun p => .tuple [.int p.1, p.2]))] S = .ok (.f (.dic (dK kvs))) S := by
  have h := putAllI kvs [] (by simpa using nd)
  unfold gDict
  dsimp only
  rw [asM_l, asL_l]
  dsimp only [Option.bind]
  rw [pairsI_]
  dsimp only
  rw [show ([] : List (PyData × PyData)) = dK [] from rfl, h]
  rfl
/-! adjacency in the order of the ties -/
def adjT (p : Int) (t : Int × Int) : List Int := (if t.1 = p then [t.2] else []) ++ (if t.2 = p then [t.1] else [])
def adjL (T : List (Int × Int)) (p : Int) : List Int := T.flatMap (adjT p)
theorem adjL_snoc (T : List (Int × Int)) (t : Int × Int) (p : Int) : adjL (T ++ [t]) p = adjL T p ++ adjT p t := by
  unfold adjL
  simp
theorem adjL_len (T : List (Int × Int)) (p : Int) : (adjL T p).length ≤ 2 * T.length := by
  induction T with
  | nil => exact Nat.le_refl _
  | cons t T ih =>
    unfold adjL at ih ⊢
    rw [List.flatMap_cons, List.length_append, List.length_cons]
    have : (adjT p t).length ≤ 2 := by unfold adjT; split <;> split <;> simp
    omega
theorem mem_adjL {T : List (Int × Int)} {p q : Int} : q ∈ adjL T p ↔ (p, q) ∈ T ∨ (q, p) ∈ T := by
  unfold adjL adjT
  rw [List.mem_flatMap]
  constructor
  · rintro ⟨t, ht, h⟩
    rcases List.mem_append.mp h with h | h
    · split at h
      · rename_i e
        rw [List.mem_singleton.mp h, ← e]
        exact .inl ht
      · cases h
    · split at h
      · rename_i e
        rw [List.mem_singleton.mp h, ← e]
        exact .inr ht
      · cases h
  · rintro (h | h)
    · exact ⟨_, h, by simp⟩
    · exact ⟨_, h, by simp⟩
theorem adj_nbr {W : Web} {p q : Int} : q ∈ adjL W.2 p ↔ nbr W p q := mem_adjL
def nearK (P : List Int) (T : List (Int × Int)) : List (Int × PyData) := P.map fun p => (p, .list (dI (adjL T p)))
theorem nearK_fst (P : List Int) (T : List (Int × Int)) : (nearK P T).map (·.1) = P := by unfold nearK; rw [List.map_map]; exact List.map_id _
theorem nearK_at {P : List Int} {T : List (Int × Int)} (nd : P.Nodup) {p : Int} (hp : p ∈ P) : lookK (nearK P T) p = some (.list (dI (adjL T p))) := lookK_of (by rw [nearK_fst]; exact nd) (List.mem_map.mpr ⟨p, hp, rfl⟩)
theorem near_ix {P : List Int} {T : List (Int × Int)} (nd : P.Nodup) {p : Int} (hp : p ∈ P) (S : Sto) : gIx (.d (.dict (dK (nearK P T)))) (.d (.int p)) S = .ok (.d (.list (dI (adjL T p)))) S := ix_dicD (nearK_at nd hp)
/-! the cells -/
def adjC (P : List Int) (T : List (Int × Int)) : List Cell := P.map fun p => .lst (dI (adjL T p))
section
variable {S : Sto} {P : List Int} {T : List (Int × Int)} {a b : Int}
def tieS (S : Sto) (P : List Int) (T : List (Int × Int)) : Sto := S ++ (adjC P T ++ [.rcd (keyC S.length P)])
theorem tieS_rcd : (tieS S P T)[S.length + P.length]? = some (.rcd (keyC S.length P)) := by
  unfold tieS
  rw [st_get, List.getElem?_append_right (by simp [adjC])]
  simp [adjC]
theorem tieS_lst {i : Nat} (h : i < P.length) : (tieS S P T)[S.length + i]? = some (.lst (dI (adjL T P[i]))) := by
  unfold tieS
  rw [st_get, List.getElem?_append_left (by simpa [adjC] using h)]
  simp [adjC, h]
theorem idx_get (h : a ∈ P) : ∃ hi : P.idxOf a < P.length, P[P.idxOf a] = a := ⟨List.idxOf_lt_length_of_mem h, List.getElem_idxOf _⟩
theorem tieS_at (h : a ∈ P) : (tieS S P T)[S.length + P.idxOf a]? = some (.lst (dI (adjL T a))) := by
  obtain ⟨hi, e⟩ := idx_get h
  rw [tieS_lst hi, e]
theorem ixR_near (h : a ∈ P) : gIxR (.c (S.length + P.length)) (.d (.int a)) (tieS S P T) = .ok (.c (S.length + P.idxOf a)) (tieS S P T) := by
  unfold gIxR MV.rIx
  simp only [tieS_rcd, kOf_int, keyC_look h, Option.map_some]
  rfl
theorem set_map {α β : Type} [DecidableEq α] (f : α → β) (x : β) : ∀ {P : List α} {a : α}, P.Nodup → a ∈ P → (P.map f).set (P.idxOf a) x = P.map fun p => if p = a then x else f p
  | [], a, _, h => by cases h
  | p :: P, a, nd, h => by
    have nd' := List.nodup_cons.mp nd
    by_cases e : p = a
    · subst e
      rw [List.idxOf_cons_self, List.map_cons, List.set_cons_zero, List.map_cons, if_pos rfl]
      congr 1
      refine List.map_congr_left fun q hq => ?_
      rw [if_neg fun (e : q = p) => nd'.1 (e ▸ hq)]
    · have hm : a ∈ P := (List.mem_cons.mp h).resolve_left (Ne.symm e)
      rw [idx_ne e, List.map_cons, List.set_cons_succ, set_map f x nd'.2 hm, List.map_cons, if_neg e]
end
/-- the loop over the ties: each end's list gets the other end -/
theorem tied_loop {S : Sto} {P : List Int} {T : List (Int × Int)} {Q : Fw → Sto → Prop} {W : Web} (hW : W = (P, T)) (nd : P.Nodup) (hT : ∀ t ∈ T, t.1 ∈ P ∧ t.2 ∈ P ∧ t.1 ≠ t.2) (hl : T.length ≤ 200) (o4 : Option Val)
    (q : ∀ o2 o3, Q (.nx [some (.d (pW W)), some (.c (S.length + P.length)), o2, o3, o4]) (tieS S P T)) :
    wp (sFo (iSeq (ev2 gIx (evV 0) (evK (.int 1)))) (bTup [bName 2, bName 3]) (sSeq (sEx (evMt "list" gAppend (ev2 gIxR (evV 1) (evV 2)) (aCons (evV 3) (aNil)))) (sEx (evMt "list" gAppend (ev2 gIxR (evV 1) (evV 3)) (aCons (evV 2) (aNil)))))
      [some (.d (pW W)), some (.c (S.length + P.length)), none, none, o4] (tieS S P [])) Q := by
  subst hW
  have hz : (1000 : Nat) ≤ sizeLine := by decide
  have g1' : ∀ U : Sto, gIx (.d (pW (P, T))) (.d (.int 1)) U = .ok (.d (pTs T)) U := fun U => rfl
  refine wp_forK (fun (pre : List (Int × Int)) ρ U => ∃ o2 o3, ρ = [some (.d (pW (P, T))), some (.c (S.length + P.length)), o2, o3, o4] ∧ U = tieS S P pre) T pP (s := ⟨dP T, []⟩) (S1 := tieS S P []) (by simp_arith [e_iSeq, g1', pTs, seq_t]) rfl (fun _ _ _ _ => gok_nil) ⟨none, none, rfl, rfl⟩ ?_ ?_
  · rintro pre t post ρ U eq ⟨o2, o3, rfl, rfl⟩
    obtain ⟨m1, m2, ne⟩ := hT t (by rw [eq]; simp)
    have pl : pre.length ≤ 200 := by
      have := congrArg List.length eq
      simp at this
      omega
    refine ⟨_, rfl, fun K k1 _ => ?_⟩
    have c1 := tieS_at (S := S) (T := pre) m1
    have l1 := adjL_len pre t.1
    have l2 := adjL_len pre t.2
    have a1 := app_c (y := .int t.2) c1 (by simp; omega)
    -- the first end's list
    have st1 : ∀ x, (tieS S P pre).set (S.length + P.idxOf t.1) x = S ++ ((adjC P pre).set (P.idxOf t.1) x ++ [.rcd (keyC S.length P)]) := fun x => by
      unfold tieS
      rw [st_set, List.set_append_left _ _ (by simpa [adjC] using List.idxOf_lt_length_of_mem m1)]
    rw [st1] at a1
    simp only [List.set_cons_zero, List.set_cons_succ]
    have ty1 := ty_list c1
    have i1 := ixR_near (S := S) (T := pre) m1
    refine wp_seqN fun K2 k2 => ?_
    rw [e_sEx, mt_eval (v := .c (S.length + P.idxOf t.1)) (S1 := tieS S P pre) (by simp_arith [i1]) ty1]
    simp_arith [a1]
    refine k2 _ _ ?_
    clear k2 K2
    have hset : (adjC P pre).set (P.idxOf t.1) (Cell.lst (dI (adjL pre t.1) ++ [PyData.int t.2])) = P.map fun p => if p = t.1 then Cell.lst (dI (adjL pre t.1) ++ [PyData.int t.2]) else Cell.lst (dI (adjL pre p)) := set_map _ _ nd m1
    rw [hset]
    -- the second end's list
    have len2 : (P.map fun p => if p = t.1 then Cell.lst (dI (adjL pre t.1) ++ [PyData.int t.2]) else Cell.lst (dI (adjL pre p))).length = P.length := by simp
    have c2 : (S ++ ((P.map fun p => if p = t.1 then Cell.lst (dI (adjL pre t.1) ++ [PyData.int t.2]) else Cell.lst (dI (adjL pre p))) ++ [Cell.rcd (keyC S.length P)]))[S.length + P.idxOf t.2]? = some (.lst (dI (adjL pre t.2))) := by
      obtain ⟨hi, e⟩ := idx_get m2
      rw [st_get, List.getElem?_append_left (by rw [len2]; exact hi), List.getElem?_map, List.getElem?_eq_getElem hi, e]
      simp [Ne.symm ne]
    have rc : (S ++ ((P.map fun p => if p = t.1 then Cell.lst (dI (adjL pre t.1) ++ [PyData.int t.2]) else Cell.lst (dI (adjL pre p))) ++ [Cell.rcd (keyC S.length P)]))[S.length + P.length]? = some (.rcd (keyC S.length P)) := by
      rw [st_get, List.getElem?_append_right (by rw [len2]; exact Nat.le_refl _), len2, Nat.sub_self]
      rfl
    have i2 : gIxR (.c (S.length + P.length)) (.d (.int t.2)) (S ++ ((P.map fun p => if p = t.1 then Cell.lst (dI (adjL pre t.1) ++ [PyData.int t.2]) else Cell.lst (dI (adjL pre p))) ++ [Cell.rcd (keyC S.length P)])) = .ok (.c (S.length + P.idxOf t.2)) (S ++ ((P.map fun p => if p = t.1 then Cell.lst (dI (adjL pre t.1) ++ [PyData.int t.2]) else Cell.lst (dI (adjL pre p))) ++ [Cell.rcd (keyC S.length P)])) := by
      unfold gIxR MV.rIx
      simp only [rc, kOf_int, keyC_look m2, Option.map_some]
      rfl
    have a2 := app_c (y := .int t.1) c2 (by simp; omega)
    have ty2 := ty_list c2
    have fin : (S ++ ((P.map fun p => if p = t.1 then Cell.lst (dI (adjL pre t.1) ++ [PyData.int t.2]) else Cell.lst (dI (adjL pre p))) ++ [Cell.rcd (keyC S.length P)])).set (S.length + P.idxOf t.2) (Cell.lst (dI (adjL pre t.2) ++ [PyData.int t.1])) = tieS S P (pre ++ [t]) := by
      unfold tieS
      rw [st_set, List.set_append_left _ _ (by rw [len2]; exact List.idxOf_lt_length_of_mem m2), set_map _ _ nd m2]
      congr 2
      refine List.map_congr_left fun p _ => ?_
      rw [adjL_snoc]
      unfold adjT
      by_cases e1 : p = t.1
      · subst e1
        rw [if_neg ne, if_pos rfl, if_pos rfl, if_neg (Ne.symm ne)]
        simp
      · by_cases e2 : p = t.2
        · subst e2
          rw [if_pos rfl, if_neg ne, if_pos rfl]
          simp
        · rw [if_neg e2, if_neg e1, if_neg (Ne.symm e1), if_neg (Ne.symm e2)]
          simp
    rw [fin] at a2
    rw [e_sEx, mt_eval (v := .c (S.length + P.idxOf t.2)) (S1 := S ++ ((P.map fun p => if p = t.1 then Cell.lst (dI (adjL pre t.1) ++ [PyData.int t.2]) else Cell.lst (dI (adjL pre p))) ++ [Cell.rcd (keyC S.length P)])) (by simp_arith [i2]) ty2]
    simp_arith [a2]
    exact k1 _ _ ⟨_, _, rfl, rfl⟩
  · rintro ρ U ⟨o2, o3, rfl, rfl⟩
    exact q _ _
theorem dictL_ev {S : Sto} {P : List Int} {src : SI} {i : Nat} {ρ : Envi} (hs : src ρ S = .ok ⟨dI P, []⟩ S) (nd : P.Nodup) (hl : P.length ≤ 1000) (hi : i < ρ.length) : evDictL src i ρ S = .ok (.g (adjC P [] ++ [.rcd (keyC S.length P)]) P.length) S := by
  unfold evDictL
  rw [hs, bind_ok]
  dsimp only
  rw [if_pos ⟨by simpa using hl, hi⟩, keysFor_dI]
  dsimp only
  rw [keyC_puts nd]
  have e : List.replicate (dI P).length (Cell.lst []) = adjC P [] := by
    rw [show (dI P).length = P.length by simp]
    unfold adjC adjL
    clear hs nd hl hi
    induction P with
    | nil => rfl
    | cons p P ih => rw [List.length_cons, List.replicate_succ, ih]; rfl
  rw [e]
  simp
/-- the def, as a dict that may be changed -/
noncomputable def bodyG : Ss := sSeq (sCell 1 (evDictL (iSeq (ev2 gIx (evV 0) (evK (.int 0)))) 4)) (sSeq (sFo (iSeq (ev2 gIx (evV 0) (evK (.int 1)))) (bTup [bName 2, bName 3]) (sSeq (sEx (evMt "list" gAppend (ev2 gIxR (evV 1) (evV 2)) (aCons (evV 3) (aNil)))) (sEx (evMt "list" gAppend (ev2 gIxR (evV 1) (evV 3)) (aCons (evV 2) (aNil)))))) (sRt (evV 1)))
noncomputable def bodyD : Ss := sSeq (sFzG 1 (sSeq (sCell 1 (evDictL (iSeq (ev2 gIx (evV 0) (evK (.int 0)))) 4)) (sFo (iSeq (ev2 gIx (evV 0) (evK (.int 1)))) (bTup [bName 2, bName 3]) (sSeq (sEx (evMt "list" gAppend (ev2 gIxR (evV 1) (evV 2)) (aCons (evV 3) (aNil)))) (sEx (evMt "list" gAppend (ev2 gIxR (evV 1) (evV 3)) (aCons (evV 2) (aNil)))))))) (sRt (evV 1))
theorem wp_sFzG {i : Nat} {f : Ss} {ρ : Envi} {S : Sto} {Q : Fw → Sto → Prop} (h : wp (f ρ S) fun w S1 => ∃ ρ1 m ps qs, w = .nx ρ1 ∧ ρ1[i]? = some (some (.c m)) ∧ S1[m]? = some (.rcd ps) ∧ lstsOf S.length S1 ps = some qs ∧ S.length ≤ m ∧ Q (.nx ((keepE S.length ρ1).set i (some (.d (.dict qs))))) (S1.take S.length)) : wp (sFzG i f ρ S) Q := by
  unfold sFzG
  rw [wp_bind]
  refine h.mono ?_
  rintro w S1 ⟨ρ1, m, ps, qs, rfl, h1, h2, h3, h4, h5⟩
  dsimp only
  rw [h1]
  dsimp only
  rw [h2]
  dsimp only
  rw [h3]
  dsimp only
  rw [if_pos h4, wp_ok]
  exact h5
theorem lsts_near {S : Sto} {P : List Int} {T : List (Int × Int)} : lstsOf S.length (tieS S P T) (keyC S.length P) = some (dK (nearK P T)) := by
  have key : ∀ (R L : List Int), P = L ++ R → lstsOf S.length (tieS S P T) (keyC (S.length + L.length) R) = some (dK (nearK R T)) := fun R => by
    induction R with
    | nil => exact fun L _ => rfl
    | cons p R ih =>
      intro L e
      have hl : L.length < P.length := by rw [e]; simp
      have hp : P[L.length] = p := by simp [e]
      have c := tieS_lst (S := S) (T := T) hl
      rw [hp] at c
      have ih := ih (L ++ [p]) (by rw [e]; simp)
      rw [List.length_append, List.length_singleton] at ih
      rw [keyC, lstsOf, c, show S.length + L.length + 1 = S.length + (L.length + 1) from rfl, ih]
      dsimp only
      rw [if_pos (by omega)]
      rfl
  exact key P [] rfl
section
variable {W : Web} {S : Sto}
structure Wn (W : Web) : Prop where
  nd : W.1.Nodup
  tm : ∀ t ∈ W.2, t.1 ∈ W.1 ∧ t.2 ∈ W.1 ∧ t.1 ≠ t.2
  pl : W.1.length ≤ 100
  tl : W.2.length ≤ 100
theorem tiedG_eq (h : Wn W) : mkFn 1 5 bodyG [.d (pW W)] S = .ok (if W.1 = [] then .f (.rcd []) else .g (adjC W.1 W.2 ++ [.rcd (keyC S.length W.1)]) W.1.length) S := by
  have pl := h.pl
  refine eq_of_wp (wp_fn rfl ?_)
  simp only [List.map_cons, List.map_nil, List.replicate, List.cons_append, List.nil_append, Nat.reduceSub]
  have g0 : ∀ U : Sto, gIx (.d (pW W)) (.d (.int 0)) U = .ok (.d (pT W.1)) U := fun U => rfl
  refine wp_seqN fun K kn => ?_
  have dl := dictL_ev (S := S) (P := W.1) (src := iSeq (ev2 gIx (evV 0) (evK (.int 0)))) (i := 4) (ρ := [some (.d (pW W)), none, none, none, none]) (by simp_arith [e_iSeq, g0, pT, seq_t]) h.nd (by omega) (by simp)
  rw [e_sCell, dl]
  simp_arith []
  refine kn _ _ ?_
  clear kn K
  refine wp_seqN fun K kn => ?_
  refine tied_loop (S := S) (P := W.1) (T := W.2) rfl h.nd h.tm (by have := h.tl; omega) none fun o2 o3 => kn _ _ ?_
  simp_arith []
  show wp (out S.length (tieS S W.1 W.2) (.c (S.length + W.1.length))) _
  have e : out S.length (tieS S W.1 W.2) (.c (S.length + W.1.length)) = .ok (if (Cell.rcd (keyC S.length W.1)).lt S.length = true then .f (.rcd (keyC S.length W.1)) else .g ((tieS S W.1 W.2).drop S.length) (S.length + W.1.length - S.length)) ((tieS S W.1 W.2).take S.length) := by
    show (if S.length + W.1.length < S.length then _ else match (tieS S W.1 W.2)[S.length + W.1.length]? with | some k => _ | none => _) = _
    rw [if_neg (by omega), tieS_rcd]
    dsimp only
    split <;> rfl
  rw [e]
  by_cases c : (Cell.rcd (keyC S.length W.1)).lt S.length = true
  · have z : W.1 = [] := by
      cases hP : W.1 with
      | nil => rfl
      | cons p P =>
        rw [hP] at c
        simp [Cell.lt, keyC, Itm.lt] at c
    rw [if_pos c, wp_ok, if_pos z, z]
    exact ⟨rfl, by unfold tieS; exact tk_app⟩
  · rw [if_neg c, wp_ok, if_neg fun z => c (by rw [z]; rfl)]
    refine ⟨?_, by unfold tieS; exact tk_app⟩
    unfold tieS
    rw [List.drop_left' rfl, Nat.add_sub_cancel_left]
theorem tiedD_eq (h : Wn W) : mkFn 1 5 bodyD [.d (pW W)] S = .ok (.d (.dict (dK (nearK W.1 W.2)))) S := by
  have pl := h.pl
  refine eq_of_wp (wp_fn rfl ?_)
  simp only [List.map_cons, List.map_nil, List.replicate, List.cons_append, List.nil_append, Nat.reduceSub]
  have g0 : ∀ U : Sto, gIx (.d (pW W)) (.d (.int 0)) U = .ok (.d (pT W.1)) U := fun U => rfl
  refine wp_seqN fun K kn => ?_
  refine wp_sFzG ?_
  refine wp_seqN fun K1 k1 => ?_
  have dl := dictL_ev (S := S) (P := W.1) (src := iSeq (ev2 gIx (evV 0) (evK (.int 0)))) (i := 4) (ρ := [some (.d (pW W)), none, none, none, none]) (by simp_arith [e_iSeq, g0, pT, seq_t]) h.nd (by omega) (by simp)
  rw [e_sCell, dl]
  simp_arith []
  refine k1 _ _ ?_
  clear k1 K1
  refine tied_loop (S := S) (P := W.1) (T := W.2) rfl h.nd h.tm (by have := h.tl; omega) none fun o2 o3 => ?_
  refine ⟨_, _, _, _, rfl, rfl, tieS_rcd, lsts_near, by omega, ?_⟩
  refine kn _ _ ?_
  have k5 : ((keepE S.length [some (.d (pW W)), some (.c (S.length + W.1.length)), o2, o3, none]).set 1 (some (.d (.dict (dK (nearK W.1 W.2))))))[1]? = some (some (.d (.dict (dK (nearK W.1 W.2))))) := by
    simp [keepE]
  simp_arith [k5]
  refine wp_out_d ⟨rfl, ?_⟩
  unfold tieS
  rw [tk_app, List.take_of_length_le (Nat.le_refl _)]
end
end Z
set_option Elab.async false
set_option linter.all false
set_option maxRecDepth 100000
set_option maxHeartbeats 1000000
/-! what is near a place -/
namespace Z
open PySem PySem.Spec PyProof.Rows L2 MV
theorem near_eq (W : Web) (p : Int) (S : Sto) (hl : W.2.length ≤ 200) : m_near [.d (pW W), .d (.int p)] S = .ok (.d (pT (nearL W p))) S := by
  have hz : (1000 : Nat) ≤ sizeLine := by decide
  refine fn_eq rfl (S1 := S) ?_ (fun r h => by rw [← h]; simp)
  simp [y_near, pW, pTs]
  rw [comp_pure W.2 pP (fun t => t.2 == p) (fun t => .int t.1) (by simp) rfl gok_nil (by omega) (fun t ht => ⟨_, by simp [pP, wipeE]; rfl, by simp, fun _ => ⟨_, by simp; rfl, rfl⟩⟩)]
  simp
  rw [comp_pure W.2 pP (fun t => t.1 == p) (fun t => .int t.2) (by simp) rfl gok_nil (by omega) (fun t ht => ⟨_, by simp [pP, wipeE]; rfl, by simp, fun _ => ⟨_, by simp; rfl, rfl⟩⟩)]
  have h1 := List.length_filter_le (fun t : Int × Int => t.2 == p) W.2
  have h2 := List.length_filter_le (fun t : Int × Int => t.1 == p) W.2
  simp
  rw [o_addL rfl rfl (by simp; omega)]
  simp
  rw [sorted_int (t := false) (g := []) (ns := (W.2.filter fun t => t.2 == p).map (·.1) ++ (W.2.filter fun t => t.1 == p).map (·.2)) (by simp [Function.comp_def]) (by simp; omega)]
  simp [pT, nearL, Function.comp_def]
end Z
set_option Elab.async false
set_option linter.all false
set_option maxRecDepth 100000
set_option maxHeartbeats 1000000
/-! Ways in a web, what is held together. -/
namespace Z
open PySem PySem.Spec PyProof.Rows L2 MV
/-! ### ways -/
/-- the ways from one within some: q is where a way ends -/
inductive Path (W : Web) (Sm : List Int) (one : Int) : Int → List Int → Prop
  | nil : Path W Sm one one [one]
  | snoc {p q : Int} {ρ : List Int} : Path W Sm one p ρ → nbr W p q → q ∈ Sm → Path W Sm one q (ρ ++ [q])
theorem Path.pos {W : Web} {Sm : List Int} {one q : Int} {ρ : List Int} (h : Path W Sm one q ρ) : 0 < ρ.length := by cases h <;> simp
theorem Path.inn {W : Web} {Sm : List Int} {one : Int} (ho : one ∈ Sm) {q : Int} {ρ : List Int} (h : Path W Sm one q ρ) : q ∈ Sm := by
  cases h with
  | nil => exact ho
  | snoc _ _ hq => exact hq
def Con (W : Web) (Sm : List Int) (a b : Int) : Prop := ∃ ρ, Path W Sm a b ρ
theorem Con.refl {W : Web} {Sm : List Int} (a : Int) : Con W Sm a a := ⟨_, .nil⟩
theorem Con.snoc {W : Web} {Sm : List Int} {a b c : Int} (h : Con W Sm a b) (nb : nbr W b c) (hc : c ∈ Sm) : Con W Sm a c := by
  obtain ⟨ρ, hρ⟩ := h
  exact ⟨_, .snoc hρ nb hc⟩
theorem Con.inn {W : Web} {Sm : List Int} {a b : Int} (ha : a ∈ Sm) (h : Con W Sm a b) : b ∈ Sm := by
  obtain ⟨ρ, hρ⟩ := h
  exact hρ.inn ha
/-- what is closed under steps holds all that is reached -/
theorem Con.ind {W : Web} {Sm : List Int} {a b : Int} (h : Con W Sm a b) {P : Int → Prop} (h0 : P a) (hs : ∀ x y, P x → nbr W x y → y ∈ Sm → P y) : P b := by
  obtain ⟨ρ, hρ⟩ := h
  induction hρ with
  | nil => exact h0
  | snoc _ nb hq ih => exact hs _ _ ih nb hq
theorem Con.trans {W : Web} {Sm : List Int} {a b c : Int} (h : Con W Sm a b) (k : Con W Sm b c) : Con W Sm a c := k.ind (P := Con W Sm a) h fun _ _ q nb hy => q.snoc nb hy
theorem Con.symm {W : Web} {Sm : List Int} {a b : Int} (ha : a ∈ Sm) (h : Con W Sm a b) : Con W Sm b a := by
  have := h.ind (P := fun x => x ∈ Sm ∧ Con W Sm x a) ⟨ha, .refl a⟩ fun x y ⟨hx, q⟩ nb hy => ⟨hy, (Con.snoc (.refl y) nb.symm hx).trans q⟩
  exact this.2
/-- all hangs together -/
def Hang (W : Web) (Sm : List Int) : Prop := ∃ a ∈ Sm, ∀ q ∈ Sm, Con W Sm a q
theorem Path.mono {W : Web} {Sm Sn : List Int} {one q : Int} {ρ : List Int} (h : Path W Sm one q ρ) (s : ∀ x ∈ Sm, x ∈ Sn) : Path W Sn one q ρ := by
  induction h with
  | nil => exact .nil
  | snoc _ nb hq ih => exact .snoc ih nb (s _ hq)
theorem Con.mono {W : Web} {Sm Sn : List Int} {a b : Int} (h : Con W Sm a b) (s : ∀ x ∈ Sm, x ∈ Sn) : Con W Sn a b := by
  obtain ⟨ρ, hρ⟩ := h
  exact ⟨ρ, hρ.mono s⟩
theorem Hang.of {W : Web} {Sm Sn : List Int} (h : Hang W Sm) (s : ∀ x, x ∈ Sm ↔ x ∈ Sn) : Hang W Sn := by
  obtain ⟨a, ha, all⟩ := h
  exact ⟨a, (s a).mp ha, fun q hq => (all q ((s q).mpr hq)).mono fun x hx => (s x).mp hx⟩
end Z
set_option Elab.async false
set_option linter.all false
set_option maxRecDepth 100000
set_option maxHeartbeats 1000000
/-! Pieces, and what hangs together. -/
namespace Z
open PySem PySem.Spec PyProof.Rows L2 MV
def metK (M : List Int) : List (Int × PyData) := M.map fun m => (m, .bool true)
theorem metK_has (M : List Int) (k : Int) : hasK (metK M) k = decide (k ∈ M) := by
  have e : (metK M).map (·.1) = M := by unfold metK; rw [List.map_map]; exact List.map_id _
  by_cases h : k ∈ M
  · rw [decide_eq_true h]; exact hasK_iff.mpr (by rw [e]; exact h)
  · rw [decide_eq_false h]
    cases q : hasK (metK M) k with
    | false => rfl
    | true => exact absurd (by rw [← e]; exact hasK_iff.mp q) h
theorem metK_fst (M : List Int) : (dK (metK M)).map (·.1) = dI M := by unfold dK metK; rw [List.map_map, List.map_map]; rfl
theorem popl_c {S : Sto} {n : Nat} {ds : List PyData} {y : PyData} (h : S[n]? = some (.lst (ds ++ [y]))) : gPop (.c n) [] S = .ok (.d y) (S.set n (.lst ds)) := by
  unfold gPop cellL
  simp [h]
theorem sortedK_c {S : Sto} {n : Nat} {M : List Int} (h : S[n]? = some (.dic (dK (metK M)))) (hl : M.length < 64) : gSortedK [.c n] S = .ok (.f (.lst (dI (isort M)))) S := by
  unfold gSortedK
  simp [asM, h, metK_fst, ints_dI, hl]
  rfl
/-- the search that gathers a piece: h in hand with the near ones of pre done -/
structure Gat (W : Web) (Sm : List Int) (one : Int) (M Wt : List Int) (hand : Option (Int × List Int)) : Prop where
  nd : M.Nodup
  one_ : one ∈ M
  sub : ∀ m ∈ M, Con W Sm one m
  wait : ∀ w ∈ Wt, w ∈ M
  wnd : Wt.Nodup
  shut : ∀ m ∈ M, m ∉ Wt → (∀ h pre, hand = some (h, pre) → m ≠ h) → ∀ b, nbr W m b → b ∈ Sm → b ∈ M
  part : ∀ h pre, hand = some (h, pre) → h ∈ M ∧ ∀ b ∈ pre, b ∈ Sm → b ∈ M
theorem gat_start (W : Web) (Sm : List Int) (one : Int) : Gat W Sm one [one] [one] none where
  nd := by simp
  one_ := by simp
  sub := fun m h => by rw [List.mem_singleton.mp h]; exact .refl _
  wait := fun w h => h
  wnd := by simp
  shut := fun m h hn => absurd h hn
  part := fun h pre e => by cases e
section
variable {W : Web} {Sm : List Int} {one : Int} {M Wt : List Int}
theorem Gat.take {h : Int} (g : Gat W Sm one M (Wt ++ [h]) none) : Gat W Sm one M Wt (some (h, [])) where
  nd := g.nd
  one_ := g.one_
  sub := g.sub
  wait := fun w hw => g.wait w (List.mem_append_left _ hw)
  wnd := (List.nodup_append.mp g.wnd).1
  shut := fun m hm hn hh => g.shut m hm (fun q => by
    rcases List.mem_append.mp q with q | q
    · exact hn q
    · exact hh h [] rfl (List.mem_singleton.mp q)) fun _ _ e => by cases e
  part := fun h' pre e => by
    cases e
    exact ⟨g.wait h (by simp), fun b hb => by cases hb⟩
theorem Gat.meet {h x : Int} {pre : List Int} (g : Gat W Sm one M Wt (some (h, pre))) (nb : nbr W h x) (hx : x ∈ Sm) (new : x ∉ M) : Gat W Sm one (M ++ [x]) (Wt ++ [x]) (some (h, pre ++ [x])) where
  nd := by
    rw [List.nodup_append]
    exact ⟨g.nd, by simp, fun a ha b hb e => new (by rw [List.mem_singleton.mp hb] at e; rw [← e]; exact ha)⟩
  one_ := List.mem_append_left _ g.one_
  sub := fun m hm => by
    rcases List.mem_append.mp hm with hm | hm
    · exact g.sub m hm
    · rw [List.mem_singleton.mp hm]; exact (g.sub h (g.part h pre rfl).1).snoc nb hx
  wait := fun w hw => by
    rcases List.mem_append.mp hw with hw | hw
    · exact List.mem_append_left _ (g.wait w hw)
    · exact List.mem_append_right _ hw
  wnd := by
    rw [List.nodup_append]
    exact ⟨g.wnd, by simp, fun a ha b hb e => new (by rw [List.mem_singleton.mp hb] at e; rw [← e]; exact g.wait a ha)⟩
  shut := fun m hm hn hh b nb' hb => by
    rcases List.mem_append.mp hm with hm | hm
    · exact List.mem_append_left _ (g.shut m hm (fun q => hn (List.mem_append_left _ q)) (fun h' pre' e => by cases e; exact hh h _ rfl) b nb' hb)
    · exact absurd (List.mem_append_right _ hm) hn
  part := fun h' pre' e => by
    cases e
    refine ⟨List.mem_append_left _ (g.part h pre rfl).1, fun b hb hS => ?_⟩
    rcases List.mem_append.mp hb with hb | hb
    · exact List.mem_append_left _ ((g.part h pre rfl).2 b hb hS)
    · exact List.mem_append_right _ hb
theorem Gat.skip {h x : Int} {pre : List Int} (g : Gat W Sm one M Wt (some (h, pre))) (hx : x ∈ Sm → x ∈ M) : Gat W Sm one M Wt (some (h, pre ++ [x])) where
  nd := g.nd
  one_ := g.one_
  sub := g.sub
  wait := g.wait
  wnd := g.wnd
  shut := fun m hm hn hh => g.shut m hm hn fun h' pre' e => by cases e; exact hh h _ rfl
  part := fun h' pre' e => by
    cases e
    refine ⟨(g.part h pre rfl).1, fun b hb hS => ?_⟩
    rcases List.mem_append.mp hb with hb | hb
    · exact (g.part h pre rfl).2 b hb hS
    · rw [List.mem_singleton.mp hb] at hS ⊢; exact hx hS
theorem Gat.next {h : Int} {pre : List Int} (g : Gat W Sm one M Wt (some (h, pre))) (all : ∀ b, nbr W h b → b ∈ pre) : Gat W Sm one M Wt none where
  nd := g.nd
  one_ := g.one_
  sub := g.sub
  wait := g.wait
  wnd := g.wnd
  shut := fun m hm hn _ b nb hb => by
    by_cases e : m = h
    · subst e
      exact (g.part m pre rfl).2 b (all b nb) hb
    · exact g.shut m hm hn (fun h' pre' q => by cases q; exact e) b nb hb
  part := fun _ _ e => by cases e
theorem Gat.all (g : Gat W Sm one M [] none) {q : Int} : q ∈ M ↔ Con W Sm one q :=
  ⟨g.sub q, fun h => h.ind (P := fun x => x ∈ M) g.one_ fun x y hx nb hy => g.shut x hx (by simp) (fun _ _ e => by cases e) y nb hy⟩
theorem Gat.few {o : Option (Int × List Int)} (g : Gat W Sm one M Wt o) (ho : one ∈ Sm) : M.length ≤ Sm.length := sub_len g.nd fun x hx => (g.sub x hx).inn ho
end
def matSto (S : Sto) (M Wt : List Int) : Sto := S ++ [.dic (dK (metK M)), .lst (dI Wt)]
theorem mat0 (S : Sto) (M Wt : List Int) : (matSto S M Wt)[S.length]? = some (.dic (dK (metK M))) := by unfold matSto; simp
theorem mat1 (S : Sto) (M Wt : List Int) : (matSto S M Wt)[S.length + 1]? = some (.lst (dI Wt)) := by unfold matSto; simp
theorem piece_wp {W : Web} {Sm : List Int} {one : Int} (ho : one ∈ Sm) (hl : W.2.length ≤ 100) (hs : Sm.length ≤ 60) (S : Sto) :
    wp (m_piece_of [.d (pW W), .d (pT Sm), .d (.int one)] S) fun v S' => S' = S ∧ ∃ R, v = .d (pT R) ∧ Rise R ∧ ∀ q, q ∈ R ↔ Con W Sm one q := by
  have hz : (1000 : Nat) ≤ sizeLine := by decide
  refine wp_fn rfl ?_
  refine wp_seqN fun K kn => ?_
  simp
  refine kn _ _ ?_
  clear kn K
  refine wp_seqN fun K kn => ?_
  simp
  refine kn _ _ ?_
  clear kn K
  have e0 : S ++ [Cell.dic (putAll [] [(Sum.inl one, PyData.bool true)]), Cell.lst [PyData.int one]] = matSto S [one] [one] := rfl
  rw [e0]
  refine wp_seqN fun K kn => ?_
  refine wp_whileK (fun m ρ T => ∃ M Wt o5, Gat W Sm one M Wt none ∧ m = 2 * (Sm.length - M.length) + Wt.length ∧ ρ = [some (.d (pW W)), some (.d (pT Sm)), some (.d (.int one)), some (.c S.length), some (.c (S.length + 1)), o5] ∧ T = matSto S M Wt) ?_ 1000000 (2 * (Sm.length - 1) + 1) _ _ (by omega) ⟨[one], [one], none, gat_start W Sm one, rfl, rfl, rfl⟩
  rintro m ρ T ⟨M, Wt, o5, g, rfl, rfl, rfl⟩ K0 kt kf
  have h0 := mat0 S M Wt
  have h1 := mat1 S M Wt
  have few := g.few ho
  rcases List.eq_nil_or_concat Wt with rfl | ⟨Wt', h, rfl⟩
  · simp [g_lenC h1]
    refine kf _ (kn _ _ ?_)
    clear kt kf kn
    simp [sortedK_c h0 (by omega)]
    refine ⟨by unfold matSto; simp, isort M, rfl, isort_rise g.nd, fun q => ?_⟩
    rw [mem_isort]
    exact g.all
  · rw [List.concat_eq_append] at *
    have pos : (0 : Int) < ((Wt' ++ [h]).length : Int) := by rw [List.length_append]; simp only [List.length_singleton]; omega
    have gtv : ∀ T : Sto, gGt (.d (.int (((Wt' ++ [h]).length : Nat) : Int))) (.d (.int 0)) T = .ok (.d (.bool true)) T := fun T => by rw [o_gt, decide_eq_true pos]
    have hln : g1 fLen [.c (S.length + 1)] (matSto S M (Wt' ++ [h])) = .ok (.d (.int (((Wt' ++ [h]).length : Nat) : Int))) (matSto S M (Wt' ++ [h])) := by rw [g_lenC h1]; simp
    simp [hln, gtv, -o_gt, -List.length_append]
    refine kt _ fun K2 k2 kr => ?_
    clear kt kf kn
    have h1' : (matSto S M (Wt' ++ [h]))[S.length + 1]? = some (.lst (dI Wt' ++ [.int h])) := by rw [h1]; simp
    have pp := popl_c h1'
    have st : (matSto S M (Wt' ++ [h])).set (S.length + 1) (.lst (dI Wt')) = matSto S M Wt' := by unfold matSto; simp
    rw [st] at pp
    have src : iSeq (evCall m_near (aCons (evV 0) (aCons (evMt "list" gPop (evV 4) aNil) (aNil)))) [some (.d (pW W)), some (.d (pT Sm)), some (.d (.int one)), some (.c S.length), some (.c (S.length + 1)), o5] (matSto S M (Wt' ++ [h])) = .ok ⟨dI (nearL W h), []⟩ (matSto S M Wt') := by
      simp [ty_list h1', pp, near_eq W h _ (by omega)]
    refine wp_forK (fun (pre : List Int) ρ T => ∃ M' Wt o5, Gat W Sm one M' Wt (some (h, pre)) ∧ M.length ≤ M'.length ∧ Wt.length + M.length = Wt'.length + M'.length ∧ ρ = [some (.d (pW W)), some (.d (pT Sm)), some (.d (.int one)), some (.c S.length), some (.c (S.length + 1)), o5] ∧ T = matSto S M' Wt) (nearL W h) PyData.int src rfl (fun _ _ _ _ => gok_nil) ⟨M, Wt', _, g.take, Nat.le_refl _, rfl, rfl, rfl⟩ ?_ ?_
    · rintro pre x post ρ T e ⟨M', Wt, o5, g', l1, l2, rfl, rfl⟩
      refine ⟨_, rfl, fun K3 k3 k4 => ?_⟩
      have i0 := mat0 S M' Wt
      have i1 := mat1 S M' Wt
      have few' := g'.few ho
      have inS : ∀ T : Sto, gIn (.d (.int x)) (.d (pT Sm)) T = .ok (.d (.bool (decide (x ∈ Sm)))) T := fun T => encInt.inT x Sm
      have nx : nbr W h x := mem_nearL.mp (by rw [e]; simp)
      by_cases q1 : x ∈ Sm
      · by_cases q2 : x ∈ M'
        · have q2' : hasK (metK M') x = true := by rw [metK_has]; exact decide_eq_true q2
          simp [inS, q1, notIn_dic x i0, q2']
          exact k3 _ _ ⟨M', Wt, _, g'.skip fun _ => q2, l1, l2, rfl, rfl⟩
        · have q2' : hasK (metK M') x = false := by rw [metK_has]; exact decide_eq_false q2
          have pt := put_dK (k := x) (y := .bool true) i0 (by unfold metK; rw [List.length_map]; omega)
          rw [put_new q2'] at pt
          have s1 : (matSto S M' Wt).set S.length (.dic (dK (metK M' ++ [(x, .bool true)]))) = S ++ [.dic (dK (metK (M' ++ [x]))), .lst (dI Wt)] := by
            unfold matSto metK
            simp
          rw [s1] at pt
          have j1 : (S ++ [Cell.dic (dK (metK (M' ++ [x]))), Cell.lst (dI Wt)])[S.length + 1]? = some (.lst (dI Wt)) := by simp
          have wl : Wt.length ≤ M'.length := sub_len g'.wnd g'.wait
          have ap := app_c (y := .int x) j1 (by simp; omega)
          have s2 : (S ++ [Cell.dic (dK (metK (M' ++ [x]))), Cell.lst (dI Wt)]).set (S.length + 1) (.lst (dI Wt ++ [.int x])) = matSto S (M' ++ [x]) (Wt ++ [x]) := by
            unfold matSto
            simp
          rw [s2] at ap
          simp [inS, q1, notIn_dic x i0, q2', pt, ty_list j1, ap]
          exact k3 _ _ ⟨_, _, _, g'.meet nx q1 q2, by simp; omega, by simp; omega, rfl, rfl⟩
      · simp [inS, q1]
        exact k3 _ _ ⟨M', Wt, _, g'.skip fun q => absurd q q1, l1, l2, rfl, rfl⟩
    · rintro ρ T ⟨M', Wt, o5, g', l1, l2, rfl, rfl⟩
      have few' := g'.few ho
      exact k2 _ _ _ (by simp; omega) ⟨M', Wt, _, g'.next fun b nb => mem_nearL.mpr nb, rfl, rfl, rfl⟩
/-! all the pieces -/
theorem pairs_met : ∀ R : List Int, pairsOf (R.map fun a => .tuple [.int a, .bool true]) = some (R.map fun a => (Sum.inl a, .bool true))
  | [] => rfl
  | a :: R => by
    have ih := pairs_met R
    rw [List.map_cons, List.map_cons, MV.pairsOf, ih]
    rfl
def putL (kvs : List (Int × PyData)) (R : List Int) : List (Int × PyData) := R.foldl (fun acc a => putK1 acc a (.bool true)) kvs
theorem putAll_met : ∀ (R : List Int) (kvs : List (Int × PyData)), putAll (dK kvs) (R.map fun a => (Sum.inl a, .bool true)) = dK (putL kvs R)
  | [], kvs => rfl
  | a :: R, kvs => by
    rw [List.map_cons, MV.putAll, putD_dK, putAll_met R]
    rfl
theorem put1_has (kvs : List (Int × PyData)) (a : Int) (y : PyData) (k : Int) : hasK (putK1 kvs a y) k = (hasK kvs k || decide (k = a)) := by
  unfold putK1
  by_cases h : hasK kvs a = true
  · rw [if_pos h]
    have e : hasK (kvs.map fun p => if p.1 = a then (p.1, y) else p) k = hasK kvs k := by
      unfold hasK
      rw [List.any_map]
      congr 1
      funext p
      show ((if p.1 = a then (p.1, y) else p).1 == k) = (p.1 == k)
      split <;> rfl
    rw [e]
    by_cases q : k = a
    · subst q; rw [h]; simp
    · simp [q]
  · rw [if_neg h]
    unfold hasK
    rw [List.any_append]
    by_cases e : k = a
    · subst e; simp
    · have e2 : (a == k) = false := by rw [beq_eq_false_iff_ne]; exact fun q => e q.symm
      simp [e, e2]
theorem put1_len (kvs : List (Int × PyData)) (a : Int) (y : PyData) : (putK1 kvs a y).length ≤ kvs.length + 1 := by
  unfold putK1
  split <;> simp
theorem putL_has : ∀ (R : List Int) (kvs : List (Int × PyData)) (k : Int), hasK (putL kvs R) k = (hasK kvs k || decide (k ∈ R))
  | [], kvs, k => by simp [putL]
  | a :: R, kvs, k => by
    show hasK (putL (putK1 kvs a (.bool true)) R) k = _
    rw [putL_has R, put1_has]
    by_cases e : k = a <;> simp [e]
theorem putL_len : ∀ (R : List Int) (kvs : List (Int × PyData)), (putL kvs R).length ≤ kvs.length + R.length
  | [], kvs => by simp [putL]
  | a :: R, kvs => by
    have h := putL_len R (putK1 kvs a (.bool true))
    have := put1_len kvs a (.bool true)
    show (putL (putK1 kvs a (.bool true)) R).length ≤ _
    simp
    omega
theorem upd_met {S : Sto} {n : Nat} {kvs : List (Int × PyData)} {R : List Int} (h : S[n]? = some (.dic (dK kvs))) (hl : kvs.length + R.length ≤ sizeLine) : gUpdate (.c n) [.d (.list (R.map fun a => .tuple [.int a, .bool true]))] S = .ok (.d .none) (S.set n (.dic (dK (putL kvs R)))) := by
  unfold gUpdate cellM
  have e1 : (dK kvs).length = kvs.length := by unfold dK; rw [List.length_map]
  simp [h, pairs_met, e1, hl, putAll_met]
/-- the pieces that the places of pre lie in -/
structure Pcs (W : Web) (Sm pre : List Int) (Rs : List (List Int)) : Prop where
  each : ∀ R ∈ Rs, Rise R ∧ ∃ a ∈ pre, ∀ q, q ∈ R ↔ Con W Sm a q
  cover : ∀ a ∈ pre, ∃ R ∈ Rs, a ∈ R
  apart : Rs.Pairwise fun R T => ∀ q ∈ R, q ∉ T
  few : Rs.length ≤ pre.length
  ord : Rise Sm → Rs.Pairwise fun R T => ∃ a ∈ R, ∀ t ∈ T, a < t
theorem Pcs.old {W : Web} {Sm pre : List Int} {Rs : List (List Int)} (p : Pcs W Sm pre Rs) {x : Int} (h : ∃ R ∈ Rs, x ∈ R) : Pcs W Sm (pre ++ [x]) Rs where
  each := fun R hR => by
    obtain ⟨h1, a, ha, h2⟩ := p.each R hR
    exact ⟨h1, a, List.mem_append_left _ ha, h2⟩
  cover := fun a ha => by
    rcases List.mem_append.mp ha with ha | ha
    · exact p.cover a ha
    · rw [List.mem_singleton.mp ha]; exact h
  apart := p.apart
  few := by have := p.few; simp; omega
  ord := p.ord
theorem Pcs.new {W : Web} {Sm pre post : List Int} {Rs : List (List Int)} (p : Pcs W Sm pre Rs) (hp : ∀ a ∈ pre, a ∈ Sm) {x : Int} (hx : x ∈ Sm) (he : Sm = pre ++ x :: post) (no : ¬ ∃ R ∈ Rs, x ∈ R) {R : List Int} (hr : Rise R) (hR : ∀ q, q ∈ R ↔ Con W Sm x q) : Pcs W Sm (pre ++ [x]) (Rs ++ [R]) where
  each := fun T hT => by
    rcases List.mem_append.mp hT with hT | hT
    · obtain ⟨h1, a, ha, h2⟩ := p.each T hT
      exact ⟨h1, a, List.mem_append_left _ ha, h2⟩
    · rw [List.mem_singleton.mp hT]; exact ⟨hr, x, by simp, hR⟩
  cover := fun a ha => by
    rcases List.mem_append.mp ha with ha | ha
    · obtain ⟨T, hT, h⟩ := p.cover a ha
      exact ⟨T, List.mem_append_left _ hT, h⟩
    · rw [List.mem_singleton.mp ha]; exact ⟨R, by simp, (hR x).mpr (.refl x)⟩
  apart := by
    rw [List.pairwise_append]
    refine ⟨p.apart, by simp, fun T hT R' hR' q hq hq2 => ?_⟩
    rw [List.mem_singleton.mp hR'] at hq2
    obtain ⟨_, a, ha, h2⟩ := p.each T hT
    have c1 := (h2 q).mp hq
    have c2 := (hR q).mp hq2
    exact no ⟨T, hT, (h2 x).mpr (c1.trans (c2.symm hx))⟩
  few := by have := p.few; simp; omega
  ord := fun rise => by
    rw [List.pairwise_append]
    refine ⟨p.ord rise, by simp, fun T hT R' hR' => ?_⟩
    rw [List.mem_singleton.mp hR']
    obtain ⟨_, a, ha, h2⟩ := p.each T hT
    refine ⟨a, (h2 a).mpr (.refl a), fun t ht => ?_⟩
    have ct := (hR t).mp ht
    have tS : t ∈ pre ++ x :: post := by rw [← he]; exact ct.inn hx
    rcases List.mem_append.mp tS with tp | tp
    · exfalso
      obtain ⟨T', hT', h⟩ := p.cover t tp
      obtain ⟨_, a', ha', h3⟩ := p.each T' hT'
      exact no ⟨T', hT', (h3 x).mpr (((h3 t).mp h).trans (ct.symm hx))⟩
    · have r : Rise (pre ++ x :: post) := by rw [← he]; exact rise
      exact (List.pairwise_append.mp r).2.2 a ha t tp
theorem pieces_wp {W : Web} {Sm : List Int} (hl : W.2.length ≤ 100) (hs : Sm.length ≤ 60) (S : Sto) :
    wp (m_pieces [.d (pW W), .d (pT Sm)] S) fun v S' => S' = S ∧ ∃ Rs, v = .d (.tuple (Rs.map pT)) ∧ Pcs W Sm Sm Rs := by
  have hz : (1000 : Nat) ≤ sizeLine := by decide
  have hz2 : (10000 : Nat) ≤ sizeLine := by decide
  refine wp_fn rfl ?_
  refine wp_seqN fun K kn => ?_
  simp
  refine kn _ _ ?_
  clear kn K
  refine wp_seqN fun K kn => ?_
  simp
  refine kn _ _ ?_
  clear kn K
  refine wp_seqN fun K kn => ?_
  refine wp_forK (fun (pre : List Int) ρ T => ∃ kvs Rs o4 o5, Pcs W Sm pre Rs ∧ (∀ k, hasK kvs k = true ↔ ∃ R ∈ Rs, k ∈ R) ∧ kvs.length ≤ 60 * pre.length ∧ ρ = [some (.d (pW W)), some (.d (pT Sm)), some (.c S.length), some (.c (S.length + 1)), o4, o5, none] ∧ T = S ++ [.dic (dK kvs), .lst (Rs.map pT)]) Sm PyData.int (s := ⟨dI Sm, []⟩) (S1 := S ++ [.dic [], .lst []]) (by simp) rfl (fun _ _ _ _ => gok_nil) ⟨[], [], none, none, ⟨by simp, by simp, by simp, by simp, by simp⟩, by simp [hasK], by simp, rfl, rfl⟩ ?_ ?_
  · rintro pre x post ρ T e ⟨kvs, Rs, o4, o5, p, hk, hlen, rfl, rfl⟩
    refine ⟨_, rfl, fun K1 k1 k2 => ?_⟩
    have hx : x ∈ Sm := by rw [e]; simp
    have hpre : ∀ a ∈ pre, a ∈ Sm := fun a ha => by rw [e]; exact List.mem_append_left _ ha
    have lp : pre.length < 60 := by
      have := congrArg List.length e
      simp at this
      omega
    have h0 : (S ++ [Cell.dic (dK kvs), Cell.lst (Rs.map pT)])[S.length]? = some (.dic (dK kvs)) := by simp
    by_cases q : ∃ R ∈ Rs, x ∈ R
    · have q' : hasK kvs x = true := (hk x).mpr q
      simp [notIn_dic x h0, q']
      exact k1 _ _ ⟨kvs, Rs, _, _, p.old q, hk, by simp; omega, rfl, rfl⟩
    · have q' : hasK kvs x = false := by
        cases c : hasK kvs x with
        | false => rfl
        | true => exact absurd ((hk x).mp c) q
      simp only [e_sIf, e_tst, e_2, e_V, List.set_cons_zero, List.set_cons_succ, List.getElem?_cons_zero, List.getElem?_cons_succ, bind_ok, th_d, th_c, notIn_dic x h0, q', Bool.not_false, if_true]
      refine wp_seqN fun K3 k3 => ?_
      simp [wp_bind]
      refine (piece_wp hx hl hs (S ++ [Cell.dic (dK kvs), Cell.lst (Rs.map pT)])).mono ?_
      rintro v T' ⟨hT, R, rfl, hr, hR⟩
      rw [hT]
      clear hT T'
      simp
      refine k3 _ _ ?_
      clear k3 K3
      have lR : R.length ≤ Sm.length := sub_len hr.nodup fun q hq => ((hR q).mp hq).inn hx
      have h1 : (S ++ [Cell.dic (dK kvs), Cell.lst (Rs.map pT)])[S.length + 1]? = some (.lst (Rs.map pT)) := by simp
      have pf := p.few
      have ap := app_c (y := pT R) h1 (by simp; omega)
      have s1 : (S ++ [Cell.dic (dK kvs), Cell.lst (Rs.map pT)]).set (S.length + 1) (.lst (Rs.map pT ++ [pT R])) = S ++ [.dic (dK kvs), .lst ((Rs ++ [R]).map pT)] := by simp
      rw [s1] at ap
      refine wp_seqN fun K3 k3 => ?_
      simp [ty_list h1, ap, -List.map_append]
      refine k3 _ _ ?_
      clear k3 K3
      have h2 : (S ++ [Cell.dic (dK kvs), Cell.lst ((Rs ++ [R]).map pT)])[S.length]? = some (.dic (dK kvs)) := by simp
      rw [e_sEx, mt_eval (v := .c S.length) rfl (ty_dict h2)]
      rw [e_aCons, comp_map R PyData.int (fun a => .tuple [.int a, .bool true]) (s := ⟨dI R, []⟩) (by simp) rfl gok_nil (by omega) (fun t ht => ⟨_, by simp [wipeE]; rfl, by simp, _, by simp; rfl, rfl⟩)]
      have up := upd_met (R := R) h2 (by omega)
      have s2 : (S ++ [Cell.dic (dK kvs), Cell.lst ((Rs ++ [R]).map pT)]).set S.length (.dic (dK (putL kvs R))) = S ++ [.dic (dK (putL kvs R)), .lst ((Rs ++ [R]).map pT)] := by simp
      rw [s2] at up
      simp [up, -List.map_append]
      have pl := putL_len R kvs
      refine k1 _ _ ⟨putL kvs R, Rs ++ [R], _, _, p.new hpre hx e q hr hR, fun k => ?_, by simp; omega, rfl, rfl⟩
      rw [putL_has, Bool.or_eq_true, hk k, decide_eq_true_iff]
      constructor
      · rintro (⟨T, hT, h⟩ | h)
        · exact ⟨T, List.mem_append_left _ hT, h⟩
        · exact ⟨R, by simp, h⟩
      · rintro ⟨T, hT, h⟩
        rcases List.mem_append.mp hT with hT | hT
        · exact .inl ⟨T, hT, h⟩
        · rw [List.mem_singleton.mp hT] at h; exact .inr h
  · rintro ρ T ⟨kvs, Rs, o4, o5, p, hk, hlen, rfl, rfl⟩
    refine kn _ _ ?_
    have h1 : (S ++ [Cell.dic (dK kvs), Cell.lst (Rs.map pT)])[S.length + 1]? = some (.lst (Rs.map pT)) := by simp
    simp [g_tupC h1]
    exact ⟨Rs, rfl, p⟩
end Z
set_option Elab.async false
set_option linter.all false
set_option maxRecDepth 100000
set_option maxHeartbeats 1000000
/-! pieces are told but one way -/
namespace Z
open PySem PySem.Spec PyProof.Rows L2 MV
def bel (R T : List Int) : Prop := ∃ a ∈ R, ∀ t ∈ T, a < t
theorem pcs_uniq {W : Web} {Sm : List Int} {Rs Ts : List (List Int)} (hs : Rise Sm) (p : Pcs W Sm Sm Rs) (q : Pcs W Sm Sm Ts) : Rs = Ts := by
  have irr : ∀ {Rs : List (List Int)}, Rs.Pairwise bel → Rs.Nodup := fun h => h.imp fun {R T} ⟨a, ha, h⟩ e => by
    subst e
    have := h a ha
    omega
  have sub : ∀ {Rs Ts : List (List Int)}, Pcs W Sm Sm Rs → Pcs W Sm Sm Ts → ∀ R, R ∈ Rs → R ∈ Ts := fun p q R hR => by
    obtain ⟨h1, a, ha, h2⟩ := p.each R hR
    obtain ⟨T, hT, haT⟩ := q.cover a ha
    obtain ⟨h3, b, hb, h4⟩ := q.each T hT
    have e : R = T := rise_ext h1 h3 fun x => by
      rw [h2, h4]
      have ab := (h4 a).mp haT
      exact ⟨fun h => ab.trans h, fun h => (ab.symm hb).trans h⟩
    rw [e]
    exact hT
  refine List.Perm.eq_of_pairwise (le := bel) (fun R T _ _ ⟨a, ha, h1⟩ ⟨b, hb, h2⟩ => ?_) (p.ord hs) (q.ord hs) ?_
  · have := h1 b hb
    have := h2 a ha
    omega
  · exact (List.perm_ext_iff_of_nodup (irr (p.ord hs)) (irr (q.ord hs))).mpr fun R => ⟨sub p q R, sub q p R⟩
end Z
set_option Elab.async false
set_option linter.all false
set_option maxRecDepth 100000
set_option maxHeartbeats 1000000
/-! kinds by looks at ties: bare, pairs, hub, stars, rows, combs, forest -/
namespace Z
open PySem PySem.Spec PyProof.Rows L2 MV
local macro_rules | `(tactic| simp_arith [$ls,*]) => `(tactic| simp only [e_V, e_K, e_2, e_tst, e_bAnd, e_bOr, e_bNot, e_And, e_Or, e_Not, e_If, e_Un, e_Chain, e_aNil, e_aCons, e_Tup, e_Lst, datas_nil, datas_d, e_Call, e_sNil, e_sBk, e_sCt, e_sEx, e_sRt, e_sRtN, e_sIf, e_sSet, e_sCell, e_sAsg, e_sPar, e_sPar3, e_sMul, e_setAll, e_setAll0, e_aCell, e_sPut, e_sAug, e_Isi, e_oNo, e_oYes, e_Sl, go_name, go_tup, goL_nil, goL_cons, go_P, go_W, e_bYes, th_d, th_c, th_z, th_f, th_fd, data_lst, data_dic, bind_ok, wp_ok, if_true, if_false, ite_true, ite_false, decide_true, decide_false, Bool.not_true, Bool.not_false, Bool.false_eq_true, Bool.true_eq_false, List.getElem?_cons_zero, List.getElem?_cons_succ, List.set_cons_zero, List.set_cons_succ, List.map_cons, List.map_nil, List.replicate, List.cons_append, List.nil_append, Option.map_some, List.length_cons, List.length_nil, Nat.reduceAdd, Nat.reduceSub, Nat.reduceLeDiff, Nat.zero_le, Nat.zero_add, o_sub, o_add, o_lt, o_le, o_gt, o_ge, o_eqI, o_neI, o_eqS, o_neS, g_lenT, g_lenL, g_lenZ, g_tupT, g_tupL, g_listT, g_listL, g_intB, g_intI, g_min2, g_max2, e_Dic0, e_dNil, e_dCons, BEq.rfl, $ls,*])
local macro_rules | `(tactic| simp_all_arith [$ls,*]) => `(tactic| (refine wp_seq fun K kn kr => ?_; simp_arith [$ls,*]; (first | refine kn _ _ ?_ | refine kr _ _ ?_); clear kn kr K))
structure Wk (W : Web) : Prop where
  n : Wn W
  r : Rise W.1
  pl : W.1.length ≤ 30
theorem hzK : (1000 : Nat) ≤ sizeLine := by decide
def maxI : List Int → Int
  | [] => 0
  | n :: ns => ns.foldl max n
theorem maxI_ge {ns : List Int} {k : Int} : k ∈ ns → k ≤ maxI ns := by
  have key : ∀ (ns : List Int) (n : Int), n ≤ ns.foldl max n ∧ ∀ k ∈ ns, k ≤ ns.foldl max n := fun ns => by
    induction ns with
    | nil => exact fun n => ⟨Int.le_refl _, fun k h => nomatch h⟩
    | cons m ns ih =>
      intro n
      obtain ⟨h1, h2⟩ := ih (max n m)
      rw [List.foldl_cons]
      refine ⟨Int.le_trans (Int.le_max_left _ _) h1, fun k hk => ?_⟩
      rcases List.mem_cons.mp hk with rfl | hk
      · exact Int.le_trans (Int.le_max_right _ _) h1
      · exact h2 k hk
  cases ns with
  | nil => intro h; cases h
  | cons n ns =>
    intro h
    rcases List.mem_cons.mp h with rfl | h
    · exact (key ns _).1
    · exact (key ns n).2 k h
theorem alike_dI (ns : List Int) : allAlike (dI ns) = true := by
  unfold allAlike
  rw [List.all_eq_true]
  intro x hx
  obtain ⟨a, _, rfl⟩ := List.mem_map.mp hx
  rw [show nn (PyData.int a) = true from rfl, shaped_int, Bool.true_and, Bool.true_and, List.all_eq_true]
  intro y hy
  obtain ⟨c, _, rfl⟩ := List.mem_map.mp hy
  simp [PySem.W.alike]
theorem maxD_dI (ns : List Int) (S : Sto) : gMaxD (.d (.list (dI ns))) (.d (.int 0)) S = .ok (.d (.int (maxI ns))) S := by
  unfold gMaxD
  rw [seq_l]
  cases ns with
  | nil => rfl
  | cons n ns =>
    show maxDat (dI (n :: ns)) S = _
    show (if allAlike (dI (n :: ns)) = true then Res.ok (Val.d (PySem.W.maxD (.int n) (dI ns))) S else .no) = _
    rw [if_pos (alike_dI _)]
    have := PySem.W.maxD_ints n ns
    rw [this]
    rfl
section
variable {W : Web} {S : Sto}
def degT (T : List (Int × Int)) (p : Int) : Nat := (adjL T p).length
theorem tied_eq (h : Wn W) : m_tied_to [.d (pW W)] S = .ok (.d (.dict (dK (nearK W.1 W.2)))) S := tiedD_eq h
theorem g1T (U : Sto) : gIx (.d (pW W)) (.d (.int 1)) U = .ok (.d (pTs W.2)) U := rfl
theorem g0T (U : Sto) : gIx (.d (pW W)) (.d (.int 0)) U = .ok (.d (pT W.1)) U := rfl
theorem nearK_vals : (dK (nearK W.1 W.2)).map (·.2) = W.1.map fun p => .list (dI (adjL W.2 p)) := by
  unfold dK nearK
  rw [List.map_map, List.map_map]
  rfl
theorem nearK_keys : (dK (nearK W.1 W.2)).map (·.1) = dI W.1 := by
  unfold dK nearK dI
  rw [List.map_map, List.map_map]
  rfl
def mostT (W : Web) : Int := maxI (W.1.map fun p => (degT W.2 p : Int))
theorem most_eq (h : Wk W) : m_most_ties [.d (pW W)] S = .ok (.d (.int (mostT W))) S := by
  have hz := hzK
  have pl := h.pl
  refine eq_of_wp (wp_fn rfl ?_)
  simp only [List.map_cons, List.map_nil, List.replicate, List.cons_append, List.nil_append, Nat.reduceSub]
  have te := tied_eq h.n (S := S)
  have cm := comp_map (src := iValsD (evCall m_tied_to (aCons (evV 0) (aNil)))) (bd := bName 1) (t := bYes) (e := evCall (g1 fLen) (aCons (evV 1) (aNil))) (own := [1]) (ρ := [some (.d (pW W)), none]) (S := S) (s := ⟨(dK (nearK W.1 W.2)).map (·.2), []⟩) W.1 (fun p => .list (dI (adjL W.2 p))) (fun p => .int (degT W.2 p : Nat)) (by simp_arith [iValsD, te]) nearK_vals gok_nil (by omega) (fun p hp => ⟨_, by simp [wipeE]; rfl, by simp_arith [], _, by simp_arith []; rfl, by simp [degT]⟩)
  have e : (W.1.map fun p => PyData.int (degT W.2 p : Nat)) = dI (W.1.map fun p => (degT W.2 p : Int)) := by
    unfold dI
    rw [List.map_map]
    rfl
  rw [e] at cm
  have mx := maxD_dI (W.1.map fun p => (degT W.2 p : Int)) S
  show wp (sRt (evMaxD _ _) _ S) _
  rw [e_sRt, show ∀ (f g : Sx) ρ, evMaxD f g ρ S = (f ρ S).bind fun v S1 => (g ρ S1).bind fun d S2 => match d with
    | .d y => gMaxD v.th (.d y) S2
    | _ => .no from fun _ _ _ => rfl, cm]
  simp_arith [mx]
  exact wp_out_d ⟨rfl, tk_self⟩
/-! no ring -/
open Classical in
noncomputable def forestB (W : Web) : Bool := decide (∃ Rs, Pcs W W.1 W.1 Rs ∧ W.2.length + Rs.length = W.1.length)
theorem forest_eq (h : Wk W) : m_is_forest [.d (pW W)] S = .ok (.d (.bool (forestB W))) S := by
  have hz := hzK
  have pl := h.pl
  have tl := h.n.tl
  obtain ⟨v, U, ep, rfl, Rs, rfl, pcs⟩ := (pieces_wp (W := W) (Sm := W.1) (by omega) (by omega) S).ex
  refine eq_of_wp (wp_fn rfl ?_)
  simp only [List.map_cons, List.map_nil, List.replicate, List.cons_append, List.nil_append, Nat.reduceSub]
  show wp (sRt _ _ U) _
  have l1 : ∀ U : Sto, g1 fLen [.d (pT W.1)] U = .ok (.d (.int (W.1.length : Nat))) U := fun U => by
    show g1 fLen [.d (.tuple (dI W.1))] U = _
    rw [g_lenT, List.length_map]
  have l2 : ∀ U : Sto, g1 fLen [.d (pTs W.2)] U = .ok (.d (.int (W.2.length : Nat))) U := fun U => by
    show g1 fLen [.d (.tuple (dP W.2))] U = _
    rw [g_lenT, List.length_map]
  simp_arith [g0T, g1T, l1, l2, ep, List.length_map]
  refine wp_out_d ⟨?_, tk_self⟩
  congr 2
  unfold forestB
  classical
  rw [Bool.eq_iff_iff, beq_iff_eq]
  constructor
  · intro e
    exact decide_eq_true ⟨Rs, pcs, by omega⟩
  · intro e
    obtain ⟨Ts, q, e⟩ := of_decide_eq_true e
    rw [pcs_uniq h.r pcs q]
    omega
/-! all ties meet one place -/
def hubB (W : Web) : Bool := match W.2 with
  | [] => true
  | t :: _ => [t.1, t.2].any fun p => W.2.all fun u => decide (p ∈ [u.1, u.2])
theorem hub_eq (hl : W.2.length ≤ 100) : m_has_hub [.d (pW W)] S = .ok (.d (.bool (hubB W))) S := by
  have hz := hzK
  obtain ⟨P, T⟩ := W
  dsimp only at hl
  refine eq_of_wp (wp_fn rfl ?_)
  simp only [List.map_cons, List.map_nil, List.replicate, List.cons_append, List.nil_append, Nat.reduceSub]
  have g1' : ∀ U : Sto, gIx (.d (pW (P, T))) (.d (.int 1)) U = .ok (.d (pTs T)) U := fun U => rfl
  have eq0 : gEq (.d (pTs T)) (.d (.tuple [])) S = .ok (.d (.bool (decide (T = [])))) S := encTs.eq T []
  refine wp_seq fun K kn kr => ?_
  cases T with
  | nil =>
    simp_arith [g1', eq0]
    exact kr _ _ (wp_out_d ⟨rfl, tk_self⟩)
  | cons t T =>
    have eq0 : gEq (.d (pTs (t :: T))) (.d (.tuple [])) S = .ok (.d (.bool false)) S := by rw [eq0]; rfl
    simp_arith [g1', eq0]
    refine kn _ _ ?_
    clear kn kr K
    have ci : ∀ (p : Int) (o2 : Option Val), evComp (iSeq (ev2 gIx (evV 0) (evK (.int 1)))) (bName 2) (bYes) (ev2 gIn (evV 1) (evV 2)) [2] [some (.d (pW (P, t :: T))), some (.d (.int p)), o2] S = .ok (.f (.lst (((t :: T).map fun u => decide (p ∈ [u.1, u.2])).map PyData.bool))) S := fun p o2 => by
      rw [comp_map (t :: T) pP (fun u => .bool (decide (p ∈ [u.1, u.2]))) (s := ⟨dP (t :: T), []⟩) (by simp_arith [e_iSeq, g1', pTs, seq_t]) rfl gok_nil (by omega) (fun u hu => ⟨_, by simp [wipeE]; rfl, by simp_arith [], _, by
        have i1 : gIn (.d (.int p)) (.d (pP u)) S = .ok (.d (.bool (decide (p ∈ [u.1, u.2])))) S := encInt.inT p [u.1, u.2]
        simp_arith [i1]
        rfl, rfl⟩)]
      rw [List.map_map]
      rfl
    have t0 : gIx (.d (pTs (t :: T))) (.d (.int 0)) S = .ok (.d (pP t)) S := by
      show gIx (.d (.tuple (dP (t :: T)))) (.d (.int 0)) S = _
      rw [o_ixT, show atI (dP (t :: T)) 0 = some (pP t) from at_nat (by decide) rfl]
    have co := comp_map (src := iSeq (ev2 gIx (ev2 gIx (evV 0) (evK (.int 1))) (evK (.int 0)))) (bd := bName 1) (t := bYes) (e := evCall (g1 fAll) (aCons (evComp (iSeq (ev2 gIx (evV 0) (evK (.int 1)))) (bName 2) (bYes) (ev2 gIn (evV 1) (evV 2)) [2]) (aNil))) (own := [1]) (ρ := [some (.d (pW (P, t :: T))), none, none]) (S := S) (s := ⟨dI [t.1, t.2], []⟩) [t.1, t.2] PyData.int (fun p => .bool ((t :: T).all fun u => decide (p ∈ [u.1, u.2]))) (by simp_arith [e_iSeq, g1', t0]; rfl) rfl gok_nil (by simp; omega) (fun p hp => ⟨_, by simp [wipeE]; rfl, by simp_arith [], _, by
      have ga := g_all (S := S) (bs := (t :: T).map fun u => decide (p ∈ [u.1, u.2])) rfl
      rw [List.all_map] at ga
      rw [e_Call, e_aCons, ci]
      simp only [bind_ok, th_f, e_aNil, ga]
      rfl, rfl⟩)
    have gy := g_any (S := S) (bs := [t.1, t.2].map fun p => (t :: T).all fun u => decide (p ∈ [u.1, u.2])) rfl
    rw [List.any_map] at gy
    have e : ([t.1, t.2].map fun p => PyData.bool ((t :: T).all fun u => decide (p ∈ [u.1, u.2]))) = ([t.1, t.2].map fun p => (t :: T).all fun u => decide (p ∈ [u.1, u.2])).map PyData.bool := rfl
    rw [e_sRt, e_Call, e_aCons, co, e]
    simp only [bind_ok, th_f, e_aNil, gy, wp_ok]
    exact wp_out_d ⟨rfl, tk_self⟩
/-! stars -/
def starsB (W : Web) : Bool := W.2.all fun t => (degT W.2 t.1 == 1) || (degT W.2 t.2 == 1)
theorem stars_eq (h : Wk W) : m_are_stars [.d (pW W)] S = .ok (.d (.bool (starsB W))) S := by
  have hz := hzK
  have tl := h.n.tl
  refine eq_of_wp (wp_fn rfl ?_)
  simp only [List.map_cons, List.map_nil, List.replicate, List.cons_append, List.nil_append, Nat.reduceSub]
  have te := tied_eq h.n (S := S)
  simp_all_arith [te]
  have cm := comp_map (src := iSeq (ev2 gIx (evV 0) (evK (.int 1)))) (bd := bTup [bName 2, bName 3]) (t := bYes) (e := evOr (ev2 gEq (evCall (g1 fLen) (aCons (ev2 gIx (evV 1) (evV 2)) (aNil))) (evK (.int 1))) (ev2 gEq (evCall (g1 fLen) (aCons (ev2 gIx (evV 1) (evV 3)) (aNil))) (evK (.int 1)))) (own := [2, 3]) (ρ := [some (.d (pW W)), some (.d (.dict (dK (nearK W.1 W.2)))), none, none]) (S := S) (s := ⟨dP W.2, []⟩) W.2 pP (fun t => .bool ((degT W.2 t.1 == 1) || (degT W.2 t.2 == 1))) (by simp_arith [e_iSeq, g1T, pTs, seq_t]) rfl gok_nil (by omega) (fun t ht => ⟨_, by simp [wipeE]; rfl, by simp_arith [], .d (.bool ((degT W.2 t.1 == 1) || (degT W.2 t.2 == 1))), by
    obtain ⟨m1, m2, _⟩ := h.n.tm t ht
    have i1 := near_ix (T := W.2) h.n.nd m1 S
    have i2 := near_ix (T := W.2) h.n.nd m2 S
    simp_arith [i1, i2, List.length_map]
    have c1 : (((adjL W.2 t.1).length : Int) == 1) = (degT W.2 t.1 == 1) := by unfold degT; rw [Bool.eq_iff_iff]; simp; omega
    have c2 : (((adjL W.2 t.2).length : Int) == 1) = (degT W.2 t.2 == 1) := by unfold degT; rw [Bool.eq_iff_iff]; simp; omega
    rw [c1, c2]
    cases degT W.2 t.1 == 1 <;> rfl, rfl⟩)
  have ga := g_all (S := S) (bs := W.2.map fun t => (degT W.2 t.1 == 1) || (degT W.2 t.2 == 1)) rfl
  rw [List.all_map] at ga
  have e : (W.2.map fun t => PyData.bool ((degT W.2 t.1 == 1) || (degT W.2 t.2 == 1))) = (W.2.map fun t => (degT W.2 t.1 == 1) || (degT W.2 t.2 == 1)).map PyData.bool := by rw [List.map_map]; rfl
  rw [e_sRt, e_Call, e_aCons, cm, e]
  simp only [bind_ok, th_f, data_lst, e_aNil, ga, wp_ok]
  exact wp_out_d ⟨rfl, tk_self⟩
/-! combs -/
def innL (T : List (Int × Int)) (p : Int) : List Int := (adjL T p).filter fun q => decide (1 < degT T q)
noncomputable def combB (W : Web) : Bool := forestB W && W.1.all fun p => decide ((innL W.2 p).length < 3)
def innK (W : Web) : List (Int × PyData) := W.1.map fun p => (p, .list (dI (innL W.2 p)))
theorem comb_eq (h : Wk W) : m_is_comb [.d (pW W)] S = .ok (.d (.bool (combB W))) S := by
  have hz := hzK
  have tl := h.n.tl
  have pl := h.pl
  refine eq_of_wp (wp_fn rfl ?_)
  simp only [List.map_cons, List.map_nil, List.replicate, List.cons_append, List.nil_append, Nat.reduceSub]
  have te := tied_eq h.n (S := S)
  simp_all_arith [te]
  have ci : ∀ (p : Int), p ∈ W.1 → ∀ (o2 o4 o5 : Option Val), evComp (iSeq (ev2 gIx (evV 1) (evV 3))) (bName 5) (tst (ev2 gGt (evCall (g1 fLen) (aCons (ev2 gIx (evV 1) (evV 5)) (aNil))) (evK (.int 1)))) (evV 5) [5] [some (.d (pW W)), some (.d (.dict (dK (nearK W.1 W.2)))), o2, some (.d (.int p)), o4, o5] S = .ok (.f (.lst (dI (innL W.2 p)))) S := fun p hp o2 o4 o5 => by
    have i1 := near_ix (T := W.2) h.n.nd hp S
    have al := adjL_len W.2 p
    exact comp_pure (adjL W.2 p) PyData.int (fun q => decide (1 < degT W.2 q)) PyData.int (s := ⟨dI (adjL W.2 p), []⟩) (by simp_arith [e_iSeq, i1, seq_l]) rfl gok_nil (by omega) (fun q hq => ⟨_, by simp [wipeE]; rfl, by
      have qm : q ∈ W.1 := by
        rcases mem_adjL.mp hq with m | m
        · exact (h.n.tm _ m).2.1
        · exact (h.n.tm _ m).1
      have i2 := near_ix (T := W.2) h.n.nd qm S
      simp_arith [i2, List.length_map]
      congr 1
      rw [decide_eq_decide]
      unfold degT
      omega, fun _ => ⟨_, by simp_arith []; rfl, rfl⟩⟩)
  have cm := comp_map (src := iAny (evV 1)) (bd := bName 3) (t := bYes) (e := evTup (aCons (evV 3) (aCons (evComp (iSeq (ev2 gIx (evV 1) (evV 3))) (bName 5) (tst (ev2 gGt (evCall (g1 fLen) (aCons (ev2 gIx (evV 1) (evV 5)) (aNil))) (evK (.int 1)))) (evV 5) [5]) (aNil)))) (own := [3]) (ρ := [some (.d (pW W)), some (.d (.dict (dK (nearK W.1 W.2)))), none, none, none, none]) (S := S) (s := ⟨(dK (nearK W.1 W.2)).map (·.1), []⟩) W.1 PyData.int (fun p => .tuple [.int p, .list (dI (innL W.2 p))]) rfl nearK_keys gok_nil (by omega) (fun p hp => ⟨_, by simp [wipeE]; rfl, by simp_arith [], _, by
    simp_arith [ci p hp]
    rfl, rfl⟩)
  have gd := dictI (S := S) (kvs := innK W) (by unfold innK; rw [List.map_map]; exact (List.map_id W.1).symm ▸ h.n.nd)
  have e : ((innK W).map fun p => PyData.tuple [.int p.1, p.2]) = W.1.map fun p => .tuple [.int p, .list (dI (innL W.2 p))] := by
    unfold innK
    rw [List.map_map]
    rfl
  rw [e] at gd
  refine wp_seqN fun K kn => ?_
  rw [e_sSet, e_Call, e_aCons, cm]
  simp only [bind_ok, th_f, data_lst, e_aNil, gd, th_fd, wp_ok, List.set_cons_zero, List.set_cons_succ]
  refine kn _ _ ?_
  clear kn K cm gd e
  have fo := forest_eq h (S := S)
  have vals : (dK (innK W)).map (·.2) = W.1.map fun p => .list (dI (innL W.2 p)) := by
    unfold dK innK
    rw [List.map_map, List.map_map]
    rfl
  have cm := comp_map (src := iValsD (evV 2)) (bd := bName 4) (t := bYes) (e := ev2 gLt (evCall (g1 fLen) (aCons (evV 4) (aNil))) (evK (.int 3))) (own := [4]) (ρ := [some (.d (pW W)), some (.d (.dict (dK (nearK W.1 W.2)))), some (.d (.dict (dK (innK W)))), none, none, none]) (S := S) (s := ⟨(dK (innK W)).map (·.2), []⟩) W.1 (fun p => .list (dI (innL W.2 p))) (fun p => .bool (decide ((innL W.2 p).length < 3))) (by simp_arith [iValsD]) vals gok_nil (by omega) (fun p hp => ⟨_, by simp [wipeE]; rfl, by simp_arith [], .d (.bool (decide ((innL W.2 p).length < 3))), by
    simp_arith [List.length_map]
    congr 3
    rw [decide_eq_decide]
    omega, rfl⟩)
  have ga := g_all (S := S) (bs := W.1.map fun p => decide ((innL W.2 p).length < 3)) rfl
  rw [List.all_map] at ga
  have e : (W.1.map fun p => PyData.bool (decide ((innL W.2 p).length < 3))) = (W.1.map fun p => decide ((innL W.2 p).length < 3)).map PyData.bool := by rw [List.map_map]; rfl
  rw [e] at cm
  unfold combB
  by_cases c : forestB W = true
  · rw [c] at fo ⊢
    rw [e_sRt, e_And, e_tst]
    simp_arith [fo]
    rw [cm]
    simp only [bind_ok, th_f, data_lst, ga, wp_ok]
    exact wp_out_d ⟨by simp, tk_self⟩
  · have c' : forestB W = false := by simpa using c
    rw [c'] at fo ⊢
    simp_arith [fo]
    exact wp_out_d ⟨by simp, tk_self⟩
end
end Z
set_option Elab.async false
set_option linter.all false
set_option maxRecDepth 100000
set_option maxHeartbeats 1000000
/-! trees by a search in breadth: the plain law -/
namespace Z
open PySem PySem.Spec PyProof.Rows L2 MV
/-- a place: the one ahead of it, how far, the first one of its tree -/
structure CE where
  key : Int
  par : Option Int
  dep : Nat
  root : Int
abbrev CM := List CE
def cks (c : CM) : List Int := c.map (·.key)
def atC (c : CM) (p : Int) : Option CE := c.find? fun e => e.key == p
theorem atC_mem {c : CM} {p : Int} {e : CE} (h : atC c p = some e) : e ∈ c ∧ e.key = p := by
  unfold atC at h
  exact ⟨List.mem_of_find?_eq_some h, by have := List.find?_some h; simpa using this⟩
theorem atC_of {c : CM} (nd : (cks c).Nodup) {e : CE} (h : e ∈ c) : atC c e.key = some e := by
  unfold atC
  unfold cks at nd
  induction c with
  | nil => cases h
  | cons x c ih =>
    rw [List.map_cons, List.nodup_cons] at nd
    rw [List.find?_cons]
    by_cases q : x.key = e.key
    · rcases List.mem_cons.mp h with rfl | h
      · simp
      · exact absurd (List.mem_map.mpr ⟨e, h, q.symm⟩) nd.1
    · have hm : e ∈ c := (List.mem_cons.mp h).resolve_left fun z => q (by rw [z])
      simp only [beq_eq_false_iff_ne.mpr q]
      exact ih nd.2 hm
theorem atC_some {c : CM} {p : Int} (h : p ∈ cks c) : ∃ e, atC c p = some e := by
  cases q : atC c p with
  | some e => exact ⟨e, rfl⟩
  | none =>
    unfold atC at q
    rw [List.find?_eq_none] at q
    obtain ⟨e, he, rfl⟩ := List.mem_map.mp h
    exact absurd (q e he) (by simp)
theorem atC_app {c d : CM} {p : Int} {e : CE} (h : atC c p = some e) : atC (c ++ d) p = some e := by
  unfold atC at h ⊢
  rw [List.find?_append, h]
  rfl
def depC (c : CM) (p : Int) : Nat := match atC c p with
  | some e => e.dep
  | none => 0
def rootC (c : CM) (p : Int) : Int := match atC c p with
  | some e => e.root
  | none => p
def parC (c : CM) (p : Int) : Option Int := match atC c p with
  | some e => e.par
  | none => none
def nbStep (here : Int) (st : CM × List Int) (one : Int) : CM × List Int := if one ∈ cks st.1 then st else (st.1 ++ [⟨one, some here, depC st.1 here + 1, rootC st.1 here⟩], st.2 ++ [one])
def bfs (T : List (Int × Int)) : Nat → CM → List Int → CM
  | _, c, [] => c
  | 0, c, _ :: _ => c
  | f + 1, c, here :: wt => let st := (adjL T here).foldl (nbStep here) (c, wt)
    bfs T f st.1 st.2
theorem bfs_nil (T : List (Int × Int)) (f : Nat) (c : CM) : bfs T f c [] = c := by cases f <;> rfl
def parStep (P : List Int) (T : List (Int × Int)) (c : CM) (b : Int) : CM := if b ∈ cks c then c else bfs T (P.length - (c.length + 1) + 1) (c ++ [⟨b, none, 0, b⟩]) [b]
def parF (P : List Int) (T : List (Int × Int)) : CM := P.foldl (parStep P T) []
/-- well made: who is ahead is nearer and in the same tree -/
def WfC (c : CM) : Prop := ∀ e ∈ c, match e.par with
  | some q => ∃ e' ∈ c, e'.key = q ∧ e'.dep + 1 = e.dep ∧ e'.root = e.root
  | none => e.dep = 0 ∧ e.root = e.key
/-- the search: of here the neighbours in pre are looked at -/
structure BI (W : Web) (c : CM) (wt : List Int) (r : Int) (hand : Option (Int × List Int)) : Prop where
  nd : (cks c).Nodup
  sub : ∀ p ∈ cks c, p ∈ W.1
  wf : WfC c
  wd : wt.Nodup
  wr : ∀ p ∈ wt, ∃ e, atC c p = some e ∧ e.root = r
  hd : ∀ h pre, hand = some (h, pre) → h ∉ wt ∧ (∃ e, atC c h = some e ∧ e.root = r) ∧ ∀ q ∈ pre, ∃ e, atC c q = some e ∧ e.root = r
  shut : ∀ e ∈ c, e.key ∉ wt → (∀ h pre, hand = some (h, pre) → e.key ≠ h) → ∀ q, nbr W e.key q → ∃ e', atC c q = some e' ∧ e'.root = e.root
section
variable {W : Web} {c : CM} {wt : List Int} {r here one : Int} {pre : List Int}
theorem BI.take (h : BI W c (here :: wt) r none) : BI W c wt r (some (here, [])) where
  nd := h.nd
  sub := h.sub
  wf := h.wf
  wd := (List.nodup_cons.mp h.wd).2
  wr := fun p hp => h.wr p (List.mem_cons_of_mem _ hp)
  hd := fun h' pre e => by
    cases e
    exact ⟨(List.nodup_cons.mp h.wd).1, h.wr _ (by simp), fun q hq => nomatch hq⟩
  shut := fun e he hw hne q nb => h.shut e he (fun m => by
    rcases List.mem_cons.mp m with m | m
    · exact hne here [] rfl m
    · exact hw m) (fun _ _ z => nomatch z) q nb
theorem BI.step (hw : ∀ a b, nbr W a b → b ∈ W.1) (h : BI W c wt r (some (here, pre))) (nb : nbr W here one) (hne : one ≠ here) : BI W (nbStep here (c, wt) one).1 (nbStep here (c, wt) one).2 r (some (here, pre ++ [one])) ∧ ((nbStep here (c, wt) one).1.length + wt.length = c.length + (nbStep here (c, wt) one).2.length) := by
  obtain ⟨hn, ⟨eh, hh, hr⟩, hp⟩ := h.hd here pre rfl
  unfold nbStep
  by_cases m : one ∈ cks c
  · rw [if_pos m]
    refine ⟨⟨h.nd, h.sub, h.wf, h.wd, h.wr, fun h' pr e => ?_, fun e he hw' hne' q nb' => h.shut e he hw' (fun h' pr z => by cases z; exact hne' here _ rfl) q nb'⟩, by dsimp only⟩
    cases e
    refine ⟨hn, ⟨eh, hh, hr⟩, fun q hq => ?_⟩
    rcases List.mem_append.mp hq with hq | hq
    · exact hp q hq
    · rw [List.mem_singleton.mp hq]
      obtain ⟨e1, he1⟩ := atC_some m
      refine ⟨e1, he1, ?_⟩
      obtain ⟨m1, k1⟩ := atC_mem he1
      by_cases mw : one ∈ wt
      · obtain ⟨e2, he2, hr2⟩ := h.wr one mw
        rw [he1] at he2
        cases he2
        exact hr2
      · obtain ⟨e', he', hr'⟩ := h.shut e1 m1 (by rw [k1]; exact mw) (fun h' pr z => by cases z; rw [k1]; exact hne) here (by rw [k1]; exact nb.symm)
        rw [hh] at he'
        cases he'
        rw [← hr', hr]
  · rw [if_neg m]
    dsimp only
    have dh : depC c here = eh.dep := by unfold depC; rw [hh]
    have rh : rootC c here = r := by unfold rootC; rw [hh]; exact hr
    have newat : atC (c ++ [⟨one, some here, depC c here + 1, rootC c here⟩]) one = some ⟨one, some here, depC c here + 1, rootC c here⟩ := by
      unfold atC
      rw [List.find?_append, List.find?_eq_none.mpr fun x hx z => m (List.mem_map.mpr ⟨x, hx, by simpa using z⟩)]
      simp
    refine ⟨⟨?_, fun p hp => ?_, fun e he => ?_, ?_, fun p hp' => ?_, fun h' pr e => ?_, fun e he hw' hne' q nb' => ?_⟩, by simp; omega⟩
    · unfold cks at m ⊢
      rw [List.map_append, List.nodup_append]
      exact ⟨h.nd, by simp, fun a ha b hb e => m (by have hb : b = one := by simpa using hb
                                                     rw [← hb, ← e]; exact ha)⟩
    · unfold cks at hp
      rw [List.map_append] at hp
      rcases List.mem_append.mp hp with hp | hp
      · exact h.sub p hp
      · rw [List.mem_singleton.mp hp]
        exact hw _ _ nb
    · rcases List.mem_append.mp he with he | he
      · have := h.wf e he
        split at this
        · rename_i q hq
          obtain ⟨e', a1, a2, a3, a4⟩ := this
          exact ⟨e', List.mem_append_left _ a1, a2, a3, a4⟩
        · exact this
      · rw [List.mem_singleton.mp he]
        obtain ⟨a1, a2⟩ := atC_mem hh
        exact ⟨eh, List.mem_append_left _ a1, a2, by rw [dh], by rw [rh]; exact hr⟩
    · rw [List.nodup_append]
      refine ⟨h.wd, by simp, fun a ha b hb e => ?_⟩
      rw [List.mem_singleton.mp hb] at e
      obtain ⟨e2, he2, _⟩ := h.wr a ha
      obtain ⟨m2, k2⟩ := atC_mem he2
      exact m (by rw [← e, ← k2]; exact List.mem_map.mpr ⟨e2, m2, rfl⟩)
    · rcases List.mem_append.mp hp' with hp' | hp'
      · obtain ⟨e, a1, a2⟩ := h.wr p hp'
        exact ⟨e, atC_app a1, a2⟩
      · rw [List.mem_singleton.mp hp']
        exact ⟨_, newat, rh⟩
    · cases e
      refine ⟨fun z => ?_, ⟨eh, atC_app hh, hr⟩, fun q hq => ?_⟩
      · rcases List.mem_append.mp z with z | z
        · exact hn z
        · exact hne (List.mem_singleton.mp z).symm
      · rcases List.mem_append.mp hq with hq | hq
        · obtain ⟨e, a1, a2⟩ := hp q hq
          exact ⟨e, atC_app a1, a2⟩
        · rw [List.mem_singleton.mp hq]
          exact ⟨_, newat, rh⟩
    · rcases List.mem_append.mp he with he | he
      · obtain ⟨e', a1, a2⟩ := h.shut e he (fun z => hw' (List.mem_append_left _ z)) (fun h' pr z => by cases z; exact hne' here _ rfl) q nb'
        exact ⟨e', atC_app a1, a2⟩
      · rw [List.mem_singleton.mp he] at hw'
        exact absurd (List.mem_append_right _ (by simp)) hw'
theorem BI.steps (hw : ∀ a b, nbr W a b → b ∈ W.1) : ∀ {xs pre : List Int} {c : CM} {wt : List Int}, BI W c wt r (some (here, pre)) → (∀ x ∈ xs, nbr W here x ∧ x ≠ here) → BI W (xs.foldl (nbStep here) (c, wt)).1 (xs.foldl (nbStep here) (c, wt)).2 r (some (here, pre ++ xs)) ∧ ((xs.foldl (nbStep here) (c, wt)).1.length + wt.length = c.length + (xs.foldl (nbStep here) (c, wt)).2.length)
  | [], pre, c, wt, h, _ => ⟨by simpa using h, by simp⟩
  | x :: xs, pre, c, wt, h, hx => by
    obtain ⟨h1, l1⟩ := h.step hw (hx x (by simp)).1 (hx x (by simp)).2
    obtain ⟨h2, l2⟩ := BI.steps hw (xs := xs) h1 fun y hy => hx y (by simp [hy])
    rw [List.foldl_cons]
    refine ⟨by simpa using h2, ?_⟩
    have e : ((nbStep here (c, wt) x).1, (nbStep here (c, wt) x).2) = nbStep here (c, wt) x := rfl
    rw [e] at l2
    omega
theorem BI.done (h : BI W c wt r (some (here, pre))) (all : ∀ q, nbr W here q → q ∈ pre) : BI W c wt r none where
  nd := h.nd
  sub := h.sub
  wf := h.wf
  wd := h.wd
  wr := h.wr
  hd := fun _ _ z => nomatch z
  shut := fun e he hw' _ q nb' => by
    by_cases z : e.key = here
    · obtain ⟨_, ⟨eh, hh, hr⟩, hp⟩ := h.hd here pre rfl
      rw [← z, atC_of h.nd he] at hh
      cases hh
      obtain ⟨e', a1, a2⟩ := hp q (all q (by rw [← z]; exact nb'))
      exact ⟨e', a1, by rw [a2, hr]⟩
    · exact h.shut e he hw' (fun h' pr y => by cases y; exact z) q nb'
/-- all that is left when a tree is done -/
structure CI (W : Web) (c : CM) : Prop where
  nd : (cks c).Nodup
  sub : ∀ p ∈ cks c, p ∈ W.1
  wf : WfC c
  shut : ∀ e ∈ c, ∀ q, nbr W e.key q → ∃ e', atC c q = some e' ∧ e'.root = e.root
theorem BI.fin (h : BI W c [] r none) : CI W c := ⟨h.nd, h.sub, h.wf, fun e he q nb => h.shut e he (by simp) (fun _ _ z => nomatch z) q nb⟩
theorem CI.start (h : CI W c) {b : Int} (hb : b ∈ W.1) (nb : b ∉ cks c) : BI W (c ++ [⟨b, none, 0, b⟩]) [b] b none where
  nd := by
    unfold cks at nb ⊢
    rw [List.map_append, List.nodup_append]
    exact ⟨h.nd, by simp, fun x hx y hy e => nb (by have hy : y = b := by simpa using hy
                                                    rw [← hy, ← e]; exact hx)⟩
  sub := fun p hp => by
    unfold cks at hp
    rw [List.map_append] at hp
    rcases List.mem_append.mp hp with hp | hp
    · exact h.sub p hp
    · rw [List.mem_singleton.mp hp]; exact hb
  wf := fun e he => by
    rcases List.mem_append.mp he with he | he
    · have := h.wf e he
      split at this
      · rename_i q hq
        obtain ⟨e', a1, a2⟩ := this
        exact ⟨e', List.mem_append_left _ a1, a2⟩
      · exact this
    · rw [List.mem_singleton.mp he]
      exact ⟨rfl, rfl⟩
  wd := by simp
  wr := fun p hp => by
    rw [List.mem_singleton.mp hp]
    refine ⟨⟨b, none, 0, b⟩, ?_, rfl⟩
    unfold atC
    rw [List.find?_append, List.find?_eq_none.mpr fun x hx z => nb (List.mem_map.mpr ⟨x, hx, by simpa using z⟩)]
    simp
  hd := fun _ _ z => nomatch z
  shut := fun e he hw' _ q nb' => by
    rcases List.mem_append.mp he with he | he
    · obtain ⟨e', a1, a2⟩ := h.shut e he q nb'
      exact ⟨e', atC_app a1, a2⟩
    · rw [List.mem_singleton.mp he] at hw'
      exact absurd (by simp) hw'
theorem cks_le (nd : (cks c).Nodup) (sub : ∀ p ∈ cks c, p ∈ W.1) : c.length ≤ W.1.length := by
  have := sub_len nd sub
  unfold cks at this
  rwa [List.length_map] at this
theorem bfs_ok (hw : ∀ a b, nbr W a b → b ∈ W.1 ∧ b ≠ a) : ∀ (f : Nat) {c : CM} {wt : List Int}, BI W c wt r none → W.1.length - c.length + wt.length ≤ f → CI W (bfs W.2 f c wt) ∧ ∀ p ∈ cks c, p ∈ cks (bfs W.2 f c wt)
  | f, c, [], h, _ => by rw [bfs_nil]; exact ⟨h.fin, fun p hp => hp⟩
  | 0, c, here :: wt, h, hf => by simp at hf
  | f + 1, c, here :: wt, h, hf => by
    rw [bfs]
    obtain ⟨h1, l1⟩ := BI.steps (r := r) (fun a b nb => (hw a b nb).1) (xs := adjL W.2 here) h.take fun x hx => ⟨adj_nbr.mp hx, (hw _ _ (adj_nbr.mp hx)).2⟩
    have h2 := h1.done fun q nb => by simpa using adj_nbr.mpr nb
    have c1 := cks_le h2.nd h2.sub
    have c0 := cks_le h.nd h.sub
    obtain ⟨k1, k2⟩ := bfs_ok hw f h2 (by
      simp at hf
      omega)
    refine ⟨k1, fun p hp => k2 p ?_⟩
    have key : ∀ (xs : List Int) (c : CM) (wt : List Int), p ∈ cks c → p ∈ cks (xs.foldl (nbStep here) (c, wt)).1 := fun xs => by
      induction xs with
      | nil => exact fun c wt h => h
      | cons x xs ih =>
        intro c wt hp
        rw [List.foldl_cons]
        have q : p ∈ cks (nbStep here (c, wt) x).1 := by
          unfold nbStep
          split
          · exact hp
          · show p ∈ (c ++ [_]).map CE.key
            rw [List.map_append]
            exact List.mem_append_left _ hp
        exact ih (nbStep here (c, wt) x).1 (nbStep here (c, wt) x).2 q
    exact key _ _ _ hp
theorem par_step (hw : ∀ a b, nbr W a b → b ∈ W.1 ∧ b ≠ a) (h : CI W c) {b : Int} (hb : b ∈ W.1) : CI W (parStep W.1 W.2 c b) ∧ (∀ p ∈ cks c, p ∈ cks (parStep W.1 W.2 c b)) ∧ b ∈ cks (parStep W.1 W.2 c b) := by
  unfold parStep
  by_cases m : b ∈ cks c
  · rw [if_pos m]
    exact ⟨h, fun p hp => hp, m⟩
  · rw [if_neg m]
    have s := h.start hb m
    have ll : (c ++ [(⟨b, none, 0, b⟩ : CE)]).length = c.length + 1 := by simp
    obtain ⟨k1, k2⟩ := bfs_ok (r := b) hw (W.1.length - (c.length + 1) + 1) s (by rw [ll]; simp)
    have inn : ∀ p, p ∈ cks c ∨ p = b → p ∈ cks (c ++ [(⟨b, none, 0, b⟩ : CE)]) := fun p hp => by
      unfold cks
      rw [List.map_append]
      rcases hp with hp | hp
      · exact List.mem_append_left _ hp
      · exact List.mem_append_right _ (by simp [hp])
    exact ⟨k1, fun p hp => k2 p (inn p (.inl hp)), k2 b (inn b (.inr rfl))⟩
theorem parF_ok (hw : ∀ a b, nbr W a b → b ∈ W.1 ∧ b ≠ a) : CI W (parF W.1 W.2) ∧ ∀ p ∈ W.1, p ∈ cks (parF W.1 W.2) := by
  have key : ∀ (xs : List Int) (c : CM), CI W c → (∀ x ∈ xs, x ∈ W.1) → CI W (xs.foldl (parStep W.1 W.2) c) ∧ (∀ p ∈ cks c, p ∈ cks (xs.foldl (parStep W.1 W.2) c)) ∧ ∀ p ∈ xs, p ∈ cks (xs.foldl (parStep W.1 W.2) c) := fun xs => by
    induction xs with
    | nil => exact fun c h _ => ⟨h, fun p hp => hp, fun p hp => nomatch hp⟩
    | cons x xs ih =>
      intro c h hx
      obtain ⟨a1, a2, a3⟩ := par_step hw h (hx x (by simp))
      obtain ⟨b1, b2, b3⟩ := ih _ a1 fun y hy => hx y (by simp [hy])
      rw [List.foldl_cons]
      refine ⟨b1, fun p hp => b2 p (a2 p hp), fun p hp => ?_⟩
      rcases List.mem_cons.mp hp with rfl | hp
      · exact b2 p a3
      · exact b3 p hp
  obtain ⟨a1, _, a3⟩ := key W.1 [] ⟨.nil, (fun p hp => nomatch hp), (fun e he => nomatch he), fun e he => nomatch he⟩ fun x hx => hx
  exact ⟨a1, a3⟩
/-! climbing -/
def climbF (c : CM) : Nat → Int → Int → List Int
  | 0, _, _ => []
  | f + 1, a, b => if a = b then [] else if depC c a < depC c b then b :: climbF c f ((parC c b).getD 0) a else a :: climbF c f ((parC c a).getD 0) b
theorem climb_up (h : CI W c) {a b : Int} {ea eb : CE} (ha : atC c a = some ea) (hb : atC c b = some eb) (hr : ea.root = eb.root) (hne : a ≠ b) (hd : ¬ ea.dep < eb.dep) : ∃ q e', ea.par = some q ∧ atC c q = some e' ∧ e'.dep + 1 = ea.dep ∧ e'.root = eb.root := by
  obtain ⟨ma, ka⟩ := atC_mem ha
  obtain ⟨mb, kb⟩ := atC_mem hb
  have wa := h.wf ea ma
  split at wa
  · rename_i q hq
    obtain ⟨e', a1, a2, a3, a4⟩ := wa
    refine ⟨q, e', hq, ?_, a3, by rw [a4, hr]⟩
    rw [← a2]
    exact atC_of h.nd a1
  · exfalso
    have wb := h.wf eb mb
    split at wb
    · rename_i q hq
      obtain ⟨e', _, _, a3, _⟩ := wb
      omega
    · exact hne (by rw [← ka, ← kb, ← wa.2, ← wb.2, hr])
end
end Z
set_option Elab.async false
set_option linter.all false
set_option maxRecDepth 100000
set_option maxHeartbeats 1000000
/-! parents, climbed, has_lone_rings walked -/
namespace Z
open PySem PySem.Spec PyProof.Rows L2 MV
local macro_rules | `(tactic| simp_arith [$ls,*]) => `(tactic| simp only [e_V, e_K, e_2, e_tst, e_bAnd, e_bOr, e_bNot, e_And, e_Or, e_Not, e_If, e_Un, e_Chain, e_aNil, e_aCons, e_Tup, e_Lst, datas_nil, datas_d, e_Call, e_sNil, e_sBk, e_sCt, e_sEx, e_sRt, e_sRtN, e_sIf, e_sSet, e_sCell, e_sAsg, e_sPar, e_sPar3, e_sMul, e_setAll, e_setAll0, e_aCell, e_sPut, e_sAug, e_Isi, e_oNo, e_oYes, e_Sl, go_name, go_tup, goL_nil, goL_cons, go_P, go_W, e_bYes, th_d, th_c, th_z, th_f, th_fd, data_lst, data_dic, bind_ok, wp_ok, if_true, if_false, ite_true, ite_false, decide_true, decide_false, Bool.not_true, Bool.not_false, Bool.false_eq_true, Bool.true_eq_false, List.getElem?_cons_zero, List.getElem?_cons_succ, List.set_cons_zero, List.set_cons_succ, List.map_cons, List.map_nil, List.replicate, List.cons_append, List.nil_append, Option.map_some, List.length_cons, List.length_nil, Nat.reduceAdd, Nat.reduceSub, Nat.reduceLeDiff, Nat.zero_le, Nat.zero_add, o_sub, o_add, o_lt, o_le, o_gt, o_ge, o_eqI, o_neI, o_eqS, o_neS, g_lenT, g_lenL, g_lenZ, g_tupT, g_tupL, g_listT, g_listL, g_intB, g_intI, g_min2, g_max2, e_Dic0, e_dNil, e_dCons, BEq.rfl, $ls,*])
local macro_rules | `(tactic| simp_all_arith [$ls,*]) => `(tactic| (refine wp_seq fun K kn kr => ?_; simp_arith [$ls,*]; (first | refine kn _ _ ?_ | refine kr _ _ ?_); clear kn kr K))
def oK : Option Int → PyData
  | none => .none
  | some i => .int i
theorem encOK : Enc oK 0 := ⟨fun a b => by cases a <;> cases b <;> simp [oK, PyData.eqv], fun a => by cases a <;> simp [oK, PyData.canLay0], fun a => by cases a <;> simp [oK, PyData.depth]⟩
def ceD (e : CE) : PyData := .tuple [oK e.par, .int (e.dep : Nat)]
def comK (c : CM) : List (Int × PyData) := c.map fun e => (e.key, ceD e)
theorem comK_fst (c : CM) : (comK c).map (·.1) = cks c := by unfold comK cks; rw [List.map_map]; rfl
theorem comK_has (c : CM) (p : Int) : hasK (comK c) p = decide (p ∈ cks c) := by
  rw [Bool.eq_iff_iff, hasK_iff, comK_fst, decide_eq_true_iff]
theorem comK_look {c : CM} {p : Int} {e : CE} (h : atC c p = some e) : lookK (comK c) p = some (ceD e) := by
  unfold lookK comK
  unfold atC at h
  induction c with
  | nil => cases h
  | cons x c ih =>
    rw [List.map_cons, List.find?_cons]
    rw [List.find?_cons] at h
    cases q : x.key == p with
    | true => rw [q] at h; cases h; rfl
    | false => rw [q] at h; exact ih h
theorem comK_snoc (c : CM) (e : CE) : comK (c ++ [e]) = comK c ++ [(e.key, ceD e)] := by unfold comK; simp
section
variable {W : Web} {S : Sto}
theorem Wn.nb (h : Wn W) : ∀ a b, nbr W a b → b ∈ W.1 ∧ b ≠ a := fun a b nb => by
  rcases nb with m | m
  · have := h.tm _ m
    exact ⟨this.2.1, fun e => this.2.2 e.symm⟩
  · have := h.tm _ m
    exact ⟨this.1, this.2.2⟩
theorem adj_in (h : Wn W) {p q : Int} (hq : q ∈ adjL W.2 p) : q ∈ W.1 := (h.nb _ _ (adj_nbr.mp hq)).1
theorem ne_nilI {S : Sto} {j : Nat} {xs : List Int} (h : S[j]? = some (.lst (dI xs))) : gNe (.c j) (.d (.list [])) S = .ok (.d (.bool (!decide (xs = [])))) S := by
  rw [o_ne (x := .list (dI xs)) (y := .list []) (by simp [h]) rfl (encInt.lst.shaped (by decide) xs) rfl]
  rw [show PyData.eqv (.list (dI xs)) (.list []) = decide (xs = []) from encInt.lst.eqvD xs []]
theorem pop0 {S : Sto} {n : Nat} {x : Int} {xs : List Int} (h : S[n]? = some (.lst (dI (x :: xs)))) : gPop (.c n) [.d (.int 0)] S = .ok (.d (.int x)) (S.set n (.lst (dI xs))) := by
  unfold gPop cellL
  dsimp only
  rw [h]
  dsimp only
  rw [if_pos ⟨by decide, by decide⟩]
  have e2 : seqIndex? 0 (dI (x :: xs)).length = some 0 := by
    unfold seqIndex?
    simp
  rw [e2]
  rfl
theorem parents_eq (h : Wk W) : m_parents [.d (pW W)] S = .ok (.f (.dic (dK (comK (parF W.1 W.2))))) S := by
  have hz := hzK
  have pl := h.pl
  have tl := h.n.tl
  have nb := h.n.nb
  refine eq_of_wp (wp_fn rfl ?_)
  simp only [List.map_cons, List.map_nil, List.replicate, List.cons_append, List.nil_append, Nat.reduceSub]
  have te := tied_eq h.n (S := S)
  simp_all_arith [te]
  simp_all_arith []
  refine wp_seqN fun K kn => ?_
  refine wp_forL (fun (pre : List Int) ρ U => ∃ L o3 o4 o5 o6, ρ = [some (.d (pW W)), some (.d (.dict (dK (nearK W.1 W.2)))), some (.c S.length), o3, o4, o5, o6] ∧ U = S ++ (.dic (dK (comK (pre.foldl (parStep W.1 W.2) []))) :: L) ∧ CI W (pre.foldl (parStep W.1 W.2) [])) W.1 PyData.int (s := ⟨dI W.1, []⟩) (S1 := S ++ [.dic []]) (by simp_arith [e_iSeq, g0T, pT, seq_t]) rfl (fun _ _ _ _ => gok_nil) ⟨[], none, none, none, none, rfl, rfl, ⟨.nil, (fun p hp => nomatch hp), (fun e he => nomatch he), fun e he => nomatch he⟩⟩ ?_ ?_
  · rintro pre b post ρ U eq ⟨L, o3, o4, o5, o6, rfl, rfl, ci⟩
    have hb : b ∈ W.1 := by rw [eq]; simp
    refine ⟨_, rfl, fun K1 k1 kc _ _ => ?_⟩
    have fs : (pre ++ [b]).foldl (parStep W.1 W.2) [] = parStep W.1 W.2 (pre.foldl (parStep W.1 W.2) []) b := by rw [List.foldl_append]; rfl
    rw [fs] at k1 kc
    have ps := par_step nb ci hb
    generalize pre.foldl (parStep W.1 W.2) [] = c at *
    have hc : (S ++ (Cell.dic (dK (comK c)) :: L))[S.length]? = some (.dic (dK (comK c))) := by simp
    have i1 := in_dic b hc
    rw [comK_has] at i1
    simp only [List.set_cons_zero, List.set_cons_succ]
    have cl := cks_le ci.nd ci.sub
    refine wp_seqL fun K2 k2 _ _ kc2 => ?_
    by_cases m : b ∈ cks c
    · rw [decide_eq_true m] at i1
      simp_arith [i1]
      refine kc2 _ _ (kc _ _ ⟨L, _, _, _, _, rfl, ?_, ps.1⟩)
      unfold parStep
      rw [if_pos m]
    rw [decide_eq_false m] at i1
    simp_arith [i1]
    refine k2 _ _ ?_
    clear k2 kc2 i1
    have pd := put_dK (y := ceD ⟨b, none, 0, b⟩) (k := b) hc (by unfold comK; rw [List.length_map]; omega)
    have setc : ∀ x, (S ++ (Cell.dic (dK (comK c)) :: L)).set S.length x = S ++ (x :: L) := fun x => by simp
    rw [put_new (by rw [comK_has]; exact decide_eq_false m), ← comK_snoc c ⟨b, none, 0, b⟩, setc] at pd
    refine wp_seqN fun K2 k2 => ?_
    have pd' : gPut (.c S.length) (.d (.int b)) (.d (.tuple [.none, .int 0])) (S ++ (Cell.dic (dK (comK c)) :: L)) = some (S ++ (.dic (dK (comK (c ++ [⟨b, none, 0, b⟩]))) :: L)) := pd
    simp_arith [pd']
    refine k2 _ _ ?_
    clear k2 K2 pd pd'
    have bi := ci.start hb m
    have fin : parStep W.1 W.2 c b = bfs W.2 (W.1.length - (c.length + 1) + 1) (c ++ [⟨b, none, 0, b⟩]) [b] := by unfold parStep; rw [if_neg m]
    rw [fin] at k1 ps
    have ll : (c ++ [(⟨b, none, 0, b⟩ : CE)]).length = c.length + 1 := by simp
    rw [← ll] at k1 ps
    clear fin kc
    generalize c ++ [(⟨b, none, 0, b⟩ : CE)] = c1 at *
    refine wp_seqN fun K2 k2 => ?_
    simp_arith []
    refine k2 _ _ ?_
    clear k2 K2
    generalize hj : (S ++ (Cell.dic (dK (comK c1)) :: L)).length = j
    have hjS : S.length < j := by rw [← hj]; simp
    generalize hF : bfs W.2 (W.1.length - c1.length + 1) c1 [b] = F at *
    have shp : ∀ (c : CM) (wt : List Int), (S ++ (Cell.dic (dK (comK c)) :: L) ++ [Cell.lst (dI wt)])[j]? = some (.lst (dI wt)) := fun c wt => by
      have e : (S ++ (Cell.dic (dK (comK c)) :: L)).length = j := by rw [← hj]; simp
      rw [← e]
      simp
    have shc : ∀ (c : CM) (wt : List Int), (S ++ (Cell.dic (dK (comK c)) :: L) ++ [Cell.lst (dI wt)])[S.length]? = some (.dic (dK (comK c))) := fun c wt => by simp
    have setj : ∀ (c : CM) (wt : List Int) x, (S ++ (Cell.dic (dK (comK c)) :: L) ++ [Cell.lst (dI wt)]).set j x = S ++ (Cell.dic (dK (comK c)) :: L) ++ [x] := fun c wt x => by
      have e : (S ++ (Cell.dic (dK (comK c)) :: L)).length = j := by rw [← hj]; simp
      rw [← e]
      simp
    have sets : ∀ (c : CM) (wt : List Int) x, (S ++ (Cell.dic (dK (comK c)) :: L) ++ [Cell.lst (dI wt)]).set S.length x = S ++ (x :: L) ++ [Cell.lst (dI wt)] := fun c wt x => by simp
    refine wp_whileK (fun m ρ U => ∃ c wt o5 o6, ρ = [some (.d (pW W)), some (.d (.dict (dK (nearK W.1 W.2)))), some (.c S.length), some (.d (.int b)), some (.c j), o5, o6] ∧ U = S ++ (.dic (dK (comK c)) :: L) ++ [.lst (dI wt)] ∧ BI W c wt b none ∧ m = W.1.length - c.length + wt.length ∧ bfs W.2 m c wt = F) ?_ 1000000 (W.1.length - c1.length + 1) _ _ (by omega) ⟨c1, [b], _, _, rfl, rfl, bi, rfl, hF⟩
    rintro m ρ U ⟨c, wt, o5, o6, rfl, rfl, bi, rfl, hb'⟩ K0 kt kf
    have ne := ne_nilI (shp c wt)
    generalize hU : S ++ (Cell.dic (dK (comK c)) :: L) ++ [Cell.lst (dI wt)] = U at ne ⊢
    by_cases w0 : wt = []
    · rw [decide_eq_true w0] at ne
      simp_arith [ne]
      subst hU w0
      refine kf _ (k1 _ _ ⟨L ++ [.lst (dI [])], _, _, _, _, rfl, ?_, ps.1⟩)
      rw [bfs_nil] at hb'
      rw [hb']
      simp
    · rw [decide_eq_false w0] at ne
      simp_arith [ne]
      refine kt _ fun K2 k2 _ => ?_
      obtain ⟨here, wt, rfl⟩ := List.exists_cons_of_ne_nil w0
      subst hU
      have tyj := ty_list (shp c (here :: wt))
      have po := pop0 (shp c (here :: wt))
      rw [setj] at po
      refine wp_seqN fun K3 k3 => ?_
      generalize S ++ (Cell.dic (dK (comK c)) :: L) ++ [Cell.lst (dI (here :: wt))] = U2 at po tyj ⊢
      rw [e_sSet, mt_eval (v := .c j) (S1 := U2) rfl tyj]
      simp_arith [po]
      refine k3 _ _ ?_
      clear k3 K3 po tyj
      have bt := bi.take
      obtain ⟨eh, heh, hrt⟩ := bi.wr here (by simp)
      have hin : here ∈ W.1 := bi.sub here (by
        obtain ⟨a1, a2⟩ := atC_mem heh
        exact List.mem_map.mpr ⟨eh, a1, a2⟩)
      have ni := fun U => near_ix (T := W.2) h.n.nd hin U
      have al := adjL_len W.2 here
      have gk : ∀ S : Sto, GOk S ⟨dI (adjL W.2 here), []⟩ := fun _ => gok_nil
      refine wp_forK (fun (pr : List Int) ρ U => ∃ o6, ρ = [some (.d (pW W)), some (.d (.dict (dK (nearK W.1 W.2)))), some (.c S.length), some (.d (.int b)), some (.c j), some (.d (.int here)), o6] ∧ U = S ++ (.dic (dK (comK (pr.foldl (nbStep here) (c, wt)).1)) :: L) ++ [.lst (dI (pr.foldl (nbStep here) (c, wt)).2)]) (adjL W.2 here) PyData.int (s := ⟨dI (adjL W.2 here), []⟩) (S1 := S ++ (.dic (dK (comK c)) :: L) ++ [.lst (dI wt)]) (by simp_arith [e_iSeq, ni, seq_l]) rfl (fun _ _ _ _ => gok_nil) ⟨o6, rfl, rfl⟩ ?_ ?_
      · rintro pr one po ρ U eq2 ⟨o6, rfl, rfl⟩
        refine ⟨_, rfl, fun K3 k3 _ => ?_⟩
        rw [List.foldl_append] at k3
        obtain ⟨bs, ls⟩ := BI.steps (fun a b n => (nb a b n).1) (xs := pr) bt fun x hx => by
          have := adj_nbr.mp (show x ∈ adjL W.2 here by rw [eq2]; simp [hx])
          exact ⟨this, (nb _ _ this).2⟩
        obtain ⟨_, ⟨e2, he2, _⟩, _⟩ := bs.hd here _ rfl
        generalize pr.foldl (nbStep here) (c, wt) = st at *
        obtain ⟨c2, w2⟩ := st
        dsimp only at bs ls he2 ⊢
        have c2l := cks_le bs.nd bs.sub
        have w2l : w2.length ≤ 30 := by
          have := sub_len bs.wd (ys := W.1) fun x hx => by
            obtain ⟨e, a1, _⟩ := bs.wr x hx
            obtain ⟨a2, a3⟩ := atC_mem a1
            exact bs.sub x (List.mem_map.mpr ⟨e, a2, a3⟩)
          omega
        have hc2 := shc c2 w2
        have hj2 := shp c2 w2
        have st1 := sets c2 w2
        have i1 := notIn_dic one hc2
        rw [comK_has] at i1
        have k3' : ∀ ρ S_1, (∃ o6, ρ = [some (.d (pW W)), some (.d (.dict (dK (nearK W.1 W.2)))), some (.c S.length), some (.d (.int b)), some (.c j), some (.d (.int here)), o6] ∧ S_1 = S ++ (Cell.dic (dK (comK (nbStep here (c2, w2) one).1)) :: L) ++ [Cell.lst (dI (nbStep here (c2, w2) one).2)]) → K3 (.nx ρ) S_1 := k3
        clear k3
        simp only [List.set_cons_zero, List.set_cons_succ]
        by_cases m : one ∈ cks c2
        · rw [decide_eq_true m] at i1
          simp_arith [i1]
          refine k3' _ _ ⟨_, rfl, ?_⟩
          unfold nbStep
          rw [if_pos m]
        · rw [decide_eq_false m] at i1
          have ix1 := ix_dic hc2 (comK_look he2)
          have dep : depC c2 here = e2.dep := by unfold depC; rw [he2]
          have ix2 : ∀ U : Sto, gIx (.d (ceD e2)) (.d (.int 1)) U = .ok (.d (.int (e2.dep : Nat))) U := fun U => rfl
          have pd := put_dK (y := ceD ⟨one, some here, e2.dep + 1, rootC c2 here⟩) (k := one) hc2 (by unfold comK; rw [List.length_map]; omega)
          rw [put_new (by rw [comK_has]; exact decide_eq_false m), ← comK_snoc c2 ⟨one, some here, e2.dep + 1, rootC c2 here⟩, st1] at pd
          have pd' : gPut (.c S.length) (.d (.int one)) (.d (.tuple [.int here, .int ((e2.dep : Int) + 1)])) (S ++ (Cell.dic (dK (comK c2)) :: L) ++ [Cell.lst (dI w2)]) = some (S ++ (.dic (dK (comK (c2 ++ [⟨one, some here, e2.dep + 1, rootC c2 here⟩]))) :: L) ++ [Cell.lst (dI w2)]) := pd
          simp_arith [i1]
          refine wp_seqN fun K4 k4 => ?_
          simp_arith [ix1, ix2, pd']
          refine k4 _ _ ?_
          have hj3 := shp (c2 ++ [⟨one, some here, e2.dep + 1, rootC c2 here⟩]) w2
          have ap := app_c (y := .int one) hj3 (by simp; omega)
          rw [setj, show dI w2 ++ [PyData.int one] = dI (w2 ++ [one]) by simp] at ap
          rw [e_sEx, mt_eval (v := .c j) (S1 := S ++ (Cell.dic (dK (comK (c2 ++ [⟨one, some here, e2.dep + 1, rootC c2 here⟩]))) :: L) ++ [Cell.lst (dI w2)]) rfl (ty_list hj3)]
          simp_arith [ap]
          refine k3' _ _ ⟨_, rfl, ?_⟩
          unfold nbStep
          rw [if_neg m]
          dsimp only
          rw [dep]
      · rintro ρ U ⟨o6, rfl, rfl⟩
        obtain ⟨bs, ls⟩ := BI.steps (fun a b n => (nb a b n).1) (xs := adjL W.2 here) bt fun x hx => ⟨adj_nbr.mp hx, (nb _ _ (adj_nbr.mp hx)).2⟩
        have bd := bs.done fun q n => by simpa using adj_nbr.mpr n
        have c2l := cks_le bd.nd bd.sub
        have c0l := cks_le bi.nd bi.sub
        have me : W.1.length - c.length + (here :: wt).length = W.1.length - ((adjL W.2 here).foldl (nbStep here) (c, wt)).1.length + ((adjL W.2 here).foldl (nbStep here) (c, wt)).2.length + 1 := by
          rw [List.length_cons]
          omega
        rw [me] at hb'
        rw [bfs] at hb'
        exact k2 _ _ _ (by rw [me]; exact Nat.lt_succ_self _) ⟨_, _, _, _, rfl, rfl, bd, rfl, hb'⟩
  · rintro ρ U ⟨L, o3, o4, o5, o6, rfl, rfl, ci⟩
    refine kn _ _ ?_
    simp_arith []
    show wp (out S.length (S ++ (.dic (dK (comK (parF W.1 W.2))) :: L)) (.c S.length)) _
    rw [out_c (by omega) (show (S ++ (Cell.dic (dK (comK (parF W.1 W.2))) :: L))[S.length]? = some (.dic (dK (comK (parF W.1 W.2)))) by simp), wp_ok]
    exact ⟨rfl, tk_app⟩
/-! climbed -/
theorem climb_eq {c : CM} (h : CI W c) {a b : Int} {ea eb : CE} (ha : atC c a = some ea) (hb : atC c b = some eb) (hr : ea.root = eb.root) (hd : ea.dep + eb.dep ≤ 200) : m_climbed [.d (.dict (dK (comK c))), .d (.int a), .d (.int b)] S = .ok (.f (.lst (dI (climbF c (ea.dep + eb.dep + 1) a b)))) S := by
  have hz := hzK
  refine eq_of_wp (wp_fn rfl ?_)
  simp only [List.map_cons, List.map_nil, List.replicate, List.cons_append, List.nil_append, Nat.reduceSub]
  simp_all_arith []
  generalize hF : climbF c (ea.dep + eb.dep + 1) a b = F
  refine wp_seqN fun K kn => ?_
  refine wp_whileK (fun m ρ U => ∃ (a b : Int) (ea eb : CE) (fd : List Int), ρ = [some (.d (.dict (dK (comK c)))), some (.d (.int a)), some (.d (.int b)), some (.c S.length)] ∧ U = S ++ [.lst (dI fd)] ∧ atC c a = some ea ∧ atC c b = some eb ∧ ea.root = eb.root ∧ m = ea.dep + eb.dep ∧ fd.length + m ≤ 200 ∧ fd ++ climbF c (m + 1) a b = F) ?_ 1000000 (ea.dep + eb.dep) _ _ (by omega) ⟨a, b, ea, eb, [], rfl, rfl, ha, hb, hr, rfl, by simpa using hd, by rw [← hF]; rfl⟩
  clear hF ha hb hr hd
  rintro m ρ U ⟨a, b, ea, eb, fd, rfl, rfl, ha, hb, hr, rfl, hl, hF⟩ K0 kt kf
  have hc : (S ++ [Cell.lst (dI fd)])[S.length]? = some (.lst (dI fd)) := by simp
  by_cases e : a = b
  · subst e
    simp_arith []
    refine kf _ (kn _ _ ?_)
    rw [climbF, if_pos rfl, List.append_nil] at hF
    subst hF
    simp_arith []
    show wp (out S.length (S ++ [Cell.lst (dI fd)]) (.c S.length)) _
    rw [out_c (by omega) hc, wp_ok]
    exact ⟨rfl, tk_app⟩
  · have e' : (a == b) = false := by simpa using e
    simp_arith [e']
    refine kt _ fun K2 k2 _ => ?_
    have xa := fun T : Sto => ix_dicD (S := T) (comK_look ha)
    have xb := fun T : Sto => ix_dicD (S := T) (comK_look hb)
    have i1 : ∀ (e : CE) (T : Sto), gIx (.d (ceD e)) (.d (.int 1)) T = .ok (.d (.int (e.dep : Nat))) T := fun e T => rfl
    have i0 : ∀ (e : CE) (T : Sto), gIx (.d (ceD e)) (.d (.int 0)) T = .ok (.d (oK e.par)) T := fun e T => rfl
    have da : depC c a = ea.dep := by unfold depC; rw [ha]
    have db : depC c b = eb.dep := by unfold depC; rw [hb]
    have pa : parC c a = ea.par := by unfold parC; rw [ha]
    have pb : parC c b = eb.par := by unfold parC; rw [hb]
    rw [climbF, if_neg e, da, db, pa, pb] at hF
    have app : ∀ x : Int, gAppend (.c S.length) [.d (.int x)] (S ++ [Cell.lst (dI fd)]) = .ok (.d .none) (S ++ [Cell.lst (dI (fd ++ [x]))]) := fun x => by
      rw [app_c hc (by simp; omega)]
      simp
    have tyc := ty_list hc
    by_cases d : ea.dep < eb.dep
    · rw [if_pos d] at hF
      obtain ⟨q, e1, hq, he1, hd1, hr1⟩ := climb_up h hb ha hr.symm (Ne.symm e) (by omega)
      have d' : ((ea.dep : Int) < (eb.dep : Int)) := by omega
      refine wp_seqN fun K3 k3 => ?_
      simp_arith [xa, xb, i1, decide_eq_true d']
      refine k3 _ _ ?_
      clear k3 K3
      refine wp_seqN fun K3 k3 => ?_
      rw [e_sEx, mt_eval (v := .c S.length) rfl tyc]
      simp_arith [app]
      refine k3 _ _ ?_
      clear k3 K3
      simp_arith [xb, i0, hq, oK]
      rw [hq] at hF
      refine k2 (e1.dep + ea.dep) _ _ (by omega) ⟨q, a, e1, ea, fd ++ [b], rfl, rfl, he1, ha, hr1, rfl, by simp; omega, ?_⟩
      rw [List.append_assoc, ← hF]
      rw [show ea.dep + eb.dep = e1.dep + ea.dep + 1 by omega]
      rfl
    · rw [if_neg d] at hF
      obtain ⟨q, e1, hq, he1, hd1, hr1⟩ := climb_up h ha hb hr e d
      have d' : ¬ ((ea.dep : Int) < (eb.dep : Int)) := by omega
      refine wp_seqN fun K3 k3 => ?_
      simp_arith [xa, xb, i1, decide_eq_false d']
      refine k3 _ _ ?_
      clear k3 K3
      refine wp_seqN fun K3 k3 => ?_
      rw [e_sEx, mt_eval (v := .c S.length) rfl tyc]
      simp_arith [app]
      refine k3 _ _ ?_
      clear k3 K3
      simp_arith [xa, i0, hq, oK]
      rw [hq] at hF
      refine k2 (e1.dep + eb.dep) _ _ (by omega) ⟨q, b, e1, eb, fd ++ [a], rfl, rfl, he1, hb, hr1, rfl, by simp; omega, ?_⟩
      rw [List.append_assoc, ← hF]
      rw [show ea.dep + eb.dep = e1.dep + eb.dep + 1 by omega]
      rfl
end
end Z
set_option Elab.async false
set_option linter.all false
set_option maxRecDepth 100000
set_option maxHeartbeats 1000000
/-! lone rings -/
namespace Z
open PySem PySem.Spec PyProof.Rows L2 MV
local macro_rules | `(tactic| simp_arith [$ls,*]) => `(tactic| simp only [e_V, e_K, e_2, e_tst, e_bAnd, e_bOr, e_bNot, e_And, e_Or, e_Not, e_If, e_Un, e_Chain, e_aNil, e_aCons, e_Tup, e_Lst, datas_nil, datas_d, e_Call, e_sNil, e_sBk, e_sCt, e_sEx, e_sRt, e_sRtN, e_sIf, e_sSet, e_sCell, e_sAsg, e_sPar, e_sPar3, e_sMul, e_setAll, e_setAll0, e_aCell, e_sPut, e_sAug, e_Isi, e_oNo, e_oYes, e_Sl, go_name, go_tup, goL_nil, goL_cons, go_P, go_W, e_bYes, th_d, th_c, th_z, th_f, th_fd, data_lst, data_dic, bind_ok, wp_ok, if_true, if_false, ite_true, ite_false, decide_true, decide_false, Bool.not_true, Bool.not_false, Bool.false_eq_true, Bool.true_eq_false, List.getElem?_cons_zero, List.getElem?_cons_succ, List.set_cons_zero, List.set_cons_succ, List.map_cons, List.map_nil, List.replicate, List.cons_append, List.nil_append, Option.map_some, List.length_cons, List.length_nil, Nat.reduceAdd, Nat.reduceSub, Nat.reduceLeDiff, Nat.zero_le, Nat.zero_add, o_sub, o_add, o_lt, o_le, o_gt, o_ge, o_eqI, o_neI, o_eqS, o_neS, g_lenT, g_lenL, g_lenZ, g_tupT, g_tupL, g_listT, g_listL, g_intB, g_intI, g_min2, g_max2, e_Dic0, e_dNil, e_dCons, BEq.rfl, $ls,*])
local macro_rules | `(tactic| simp_all_arith [$ls,*]) => `(tactic| (refine wp_seq fun K kn kr => ?_; simp_arith [$ls,*]; (first | refine kn _ _ ?_ | refine kr _ _ ?_); clear kn kr K))
def useF : List Int → List Int → Option (List Int)
  | [], u => some u
  | p :: ps, u => if p ∈ u then none else useF ps (u ++ [p])
def offT (c : CM) (t : Int × Int) : Prop := parC c t.1 ≠ some t.2 ∧ parC c t.2 ≠ some t.1
instance (c : CM) (t : Int × Int) : Decidable (offT c t) := inferInstanceAs (Decidable (_ ∧ _))
def wayT (c : CM) (t : Int × Int) : List Int := climbF c (depC c t.1 + depC c t.2 + 1) t.1 t.2
def ringF (c : CM) : List (Int × Int) → List Int → Bool
  | [], _ => true
  | t :: ts, u => if offT c t then match useF (wayT c t) u with
      | none => false
      | some u' => ringF c ts u'
    else ringF c ts u
def ringsB (W : Web) : Bool := ringF (parF W.1 W.2) W.2 []
theorem useF_app : ∀ {xs u u' : List Int} {y : Int}, useF xs u = some u' → useF (xs ++ [y]) u = if y ∈ u' then none else some (u' ++ [y])
  | [], u, u', y, h => by
    cases h
    simp [useF]
  | x :: xs, u, u', y, h => by
    rw [useF] at h
    rw [List.cons_append, useF]
    split at h
    · cases h
    · rename_i m
      rw [if_neg m]
      exact useF_app h
theorem useF_none : ∀ {xs ys u : List Int}, useF xs u = none → useF (xs ++ ys) u = none
  | [], ys, u, h => by cases h
  | x :: xs, ys, u, h => by
    rw [useF] at h
    rw [List.cons_append, useF]
    split at h
    · rename_i m
      rw [if_pos m]
    · rename_i m
      rw [if_neg m]
      exact useF_none h
theorem useF_len : ∀ {xs u u' : List Int}, useF xs u = some u' → u'.length = u.length + xs.length
  | [], u, u', h => by cases h; rfl
  | x :: xs, u, u', h => by
    rw [useF] at h
    split at h
    · cases h
    · rw [useF_len h]; simp; omega
theorem climbF_len (c : CM) : ∀ (f : Nat) (a b : Int), (climbF c f a b).length ≤ f
  | 0, _, _ => Nat.le_refl _
  | f + 1, a, b => by
    rw [climbF]
    split
    · exact Nat.zero_le _
    · split
      · rw [List.length_cons]; have := climbF_len c f ((parC c b).getD 0) a; omega
      · rw [List.length_cons]; have := climbF_len c f ((parC c a).getD 0) b; omega
def useK (u : List Int) : List (Int × PyData) := u.map fun p => (p, .bool true)
theorem useK_has (u : List Int) (p : Int) : hasK (useK u) p = decide (p ∈ u) := by
  rw [Bool.eq_iff_iff, hasK_iff, decide_eq_true_iff]
  unfold useK
  rw [List.map_map]
  exact Iff.of_eq (congrArg (p ∈ ·) (List.map_id _))
section
variable {W : Web} {S : Sto}
theorem dep_le {c : CM} (h : CI W c) : ∀ (n : Nat) (e : CE), e ∈ c → e.dep = n → ∃ es : List CE, es.length = n + 1 ∧ (es.map (·.key)).Nodup ∧ (∀ x ∈ es, x ∈ c) ∧ ∀ x ∈ es, x.dep ≤ n
  | 0, e, he, hd => ⟨[e], rfl, by simp, fun x hx => by rw [List.mem_singleton.mp hx]; exact he, fun x hx => by rw [List.mem_singleton.mp hx]; omega⟩
  | n + 1, e, he, hd => by
    have w := h.wf e he
    split at w
    · obtain ⟨e', a1, a2, a3, a4⟩ := w
      obtain ⟨es, b1, b2, b3, b4⟩ := dep_le h n e' a1 (by omega)
      refine ⟨e :: es, by simp [b1], ?_, fun x hx => ?_, fun x hx => ?_⟩
      · rw [List.map_cons, List.nodup_cons]
        refine ⟨fun m => ?_, b2⟩
        obtain ⟨x, hx, e1⟩ := List.mem_map.mp m
        have : x = e := by
          have q1 := atC_of h.nd (b3 x hx)
          have q2 := atC_of h.nd he
          rw [e1, q2] at q1
          exact (Option.some.inj q1).symm
        have := b4 x hx
        subst_vars
        omega
      · rcases List.mem_cons.mp hx with rfl | hx
        · exact he
        · exact b3 x hx
      · rcases List.mem_cons.mp hx with rfl | hx
        · omega
        · have := b4 x hx; omega
    · omega
theorem dep_bd {c : CM} (h : CI W c) {e : CE} (he : e ∈ c) : e.dep + 1 ≤ W.1.length := by
  obtain ⟨es, b1, b2, b3, _⟩ := dep_le h e.dep e he rfl
  have := sub_len b2 (ys := W.1) fun x hx => by
    obtain ⟨y, hy, rfl⟩ := List.mem_map.mp hx
    exact h.sub _ (List.mem_map.mpr ⟨y, b3 y hy, rfl⟩)
  rw [List.length_map] at this
  omega
theorem rings_eq (h : Wk W) : m_has_lone_rings [.d (pW W)] S = .ok (.d (.bool (ringsB W))) S := by
  have hz : (10000 : Nat) ≤ sizeLine := by decide
  have pl := h.pl
  have tl := h.n.tl
  have nb := h.n.nb
  obtain ⟨ci, cov⟩ := parF_ok nb
  refine eq_of_wp (wp_fn rfl ?_)
  simp only [List.map_cons, List.map_nil, List.replicate, List.cons_append, List.nil_append, Nat.reduceSub]
  have pe := parents_eq h (S := S)
  have hB : ringsB W = ringF (parF W.1 W.2) W.2 [] := rfl
  simp_all_arith [pe]
  simp_all_arith []
  generalize parF W.1 W.2 = c at *
  generalize ringsB W = B at *
  refine wp_seq fun K kn kr => ?_
  refine wp_forK (fun (pre : List (Int × Int)) ρ U => ∃ u o3 o4 o5, ρ = [some (.d (pW W)), some (.d (.dict (dK (comK c)))), some (.c S.length), o3, o4, o5] ∧ U = S ++ [.dic (dK (useK u))] ∧ u.length ≤ 70 * pre.length ∧ ∀ post, W.2 = pre ++ post → ringF c post u = B) W.2 pP (s := ⟨dP W.2, []⟩) (S1 := S ++ [.dic []]) (by simp_arith [e_iSeq, g1T, pTs, seq_t]) rfl (fun _ _ _ _ => gok_nil) ⟨[], none, none, none, rfl, rfl, by simp, fun post e => by rw [hB, e]; rfl⟩ ?_ ?_
  · rintro pre t post ρ U eq ⟨u, o3, o4, o5, rfl, rfl, ul, hr⟩
    have ht : t ∈ W.2 := by rw [eq]; simp
    have pll : pre.length ≤ 100 := by
      have := congrArg List.length eq
      simp at this
      omega
    obtain ⟨m1, m2, ne⟩ := h.n.tm t ht
    obtain ⟨e1, h1⟩ := atC_some (cov _ m1)
    obtain ⟨e2, h2⟩ := atC_some (cov _ m2)
    obtain ⟨q1, k1e⟩ := atC_mem h1
    obtain ⟨q2, k2e⟩ := atC_mem h2
    have rr : e1.root = e2.root := by
      obtain ⟨e', a1, a2⟩ := ci.shut e1 q1 t.2 (by rw [k1e]; exact .inl ht)
      rw [h2] at a1
      cases a1
      exact a2.symm
    have b1 := dep_bd ci q1
    have b2 := dep_bd ci q2
    have xa := fun T : Sto => ix_dicD (S := T) (comK_look h1)
    have xb := fun T : Sto => ix_dicD (S := T) (comK_look h2)
    have i0 : ∀ (e : CE) (T : Sto), gIx (.d (ceD e)) (.d (.int 0)) T = .ok (.d (oK e.par)) T := fun e T => rfl
    have n1 : ∀ T : Sto, gNe (.d (oK e1.par)) (.d (.int t.2)) T = .ok (.d (.bool (!decide (e1.par = some t.2)))) T := fun T => encOK.ne e1.par (some t.2)
    have n2 : ∀ T : Sto, gNe (.d (oK e2.par)) (.d (.int t.1)) T = .ok (.d (.bool (!decide (e2.par = some t.1)))) T := fun T => encOK.ne e2.par (some t.1)
    have p1 : parC c t.1 = e1.par := by unfold parC; rw [h1]
    have p2 : parC c t.2 = e2.par := by unfold parC; rw [h2]
    have d1 : depC c t.1 = e1.dep := by unfold depC; rw [h1]
    have d2 : depC c t.2 = e2.dep := by unfold depC; rw [h2]
    have hr' := hr (t :: post) eq
    rw [ringF] at hr'
    refine ⟨_, rfl, fun K1 k1 kr1 => ?_⟩
    simp only [List.set_cons_zero, List.set_cons_succ]
    have skip : ¬ offT c t → ∀ o5, K1 (.nx [some (.d (pW W)), some (.d (.dict (dK (comK c)))), some (.c S.length), some (.d (.int t.1)), some (.d (.int t.2)), o5]) (S ++ [.dic (dK (useK u))]) := fun no o5 => by
      rw [if_neg no] at hr'
      refine k1 _ _ ⟨u, _, _, _, rfl, rfl, by simp; omega, fun post' e => ?_⟩
      have : post' = post := by
        rw [eq, List.append_assoc, List.append_cancel_left_eq] at e
        simpa using e.symm
      rw [this]
      exact hr'
    by_cases c1 : e1.par = some t.2
    · have n1 := fun T => n1 T
      rw [decide_eq_true c1] at n1
      simp_arith [xa, i0, n1]
      exact skip (fun z => z.1 (by rw [p1]; exact c1)) _
    rw [decide_eq_false c1] at n1
    by_cases c2 : e2.par = some t.1
    · rw [decide_eq_true c2] at n2
      simp_arith [xa, xb, i0, n1, n2]
      exact skip (fun z => z.2 (by rw [p2]; exact c2)) _
    rw [decide_eq_false c2] at n2
    simp_arith [xa, xb, i0, n1, n2]
    rw [if_pos ⟨by rw [p1]; exact c1, by rw [p2]; exact c2⟩] at hr'
    have ce := fun T : Sto => climb_eq (S := T) ci h1 h2 rr (by omega)
    have we : wayT c t = climbF c (e1.dep + e2.dep + 1) t.1 t.2 := by unfold wayT; rw [d1, d2]
    rw [← we] at ce
    have wl : (wayT c t).length ≤ 61 := by
      rw [we]
      exact Nat.le_trans (climbF_len c _ _ _) (by omega)
    generalize wayT c t = Wy at *
    refine wp_forK (fun (pr : List Int) ρ U => ∃ u' o5, useF pr u = some u' ∧ ρ = [some (.d (pW W)), some (.d (.dict (dK (comK c)))), some (.c S.length), some (.d (.int t.1)), some (.d (.int t.2)), o5] ∧ U = S ++ [.dic (dK (useK u'))]) Wy PyData.int (s := ⟨dI Wy, []⟩) (S1 := S ++ [.dic (dK (useK u))]) (by simp_arith [e_iSeq, ce, seq_l]) rfl (fun _ _ _ _ => gok_nil) ⟨u, _, rfl, rfl, rfl⟩ ?_ ?_
    · rintro pr p po ρ U eq2 ⟨u', o5, hu, rfl, rfl⟩
      refine ⟨_, rfl, fun K2 k2 kr2 => ?_⟩
      have hc : (S ++ [Cell.dic (dK (useK u'))])[S.length]? = some (.dic (dK (useK u'))) := by simp
      have i1 := in_dic p hc
      rw [useK_has] at i1
      have ul' := useF_len hu
      have pr61 : pr.length ≤ 61 := by
        have := congrArg List.length eq2
        simp at this
        omega
      have pd := put_dK (y := .bool true) (k := p) hc (by unfold useK; rw [List.length_map]; omega)
      have st0 : ∀ x, (S ++ [Cell.dic (dK (useK u'))]).set S.length x = S ++ [x] := fun x => by simp
      rw [st0] at pd
      have ua := useF_app (y := p) hu
      simp only [List.set_cons_zero, List.set_cons_succ]
      refine wp_seq fun K3 k3 kr3 => ?_
      by_cases m : p ∈ u'
      · rw [decide_eq_true m] at i1
        simp_arith [i1]
        rw [if_pos m] at ua
        have z : useF Wy u = none := by
          rw [eq2, show pr ++ p :: po = (pr ++ [p]) ++ po by simp]
          exact useF_none ua
        rw [z] at hr'
        refine kr3 _ _ (kr2 _ _ (kr1 _ _ (kr _ _ (wp_out_d ⟨?_, tk_app⟩))))
        rw [← hr']
      · rw [decide_eq_false m] at i1
        simp_arith [i1]
        refine k3 _ _ ?_
        rw [if_neg m] at ua
        rw [put_new (by rw [useK_has]; exact decide_eq_false m)] at pd
        simp_arith [pd]
        refine k2 _ _ ⟨u' ++ [p], _, ua, rfl, ?_⟩
        unfold useK
        simp
    · rintro ρ U ⟨u', o5, hu, rfl, rfl⟩
      rw [hu] at hr'
      dsimp only at hr'
      have ul' := useF_len hu
      refine k1 _ _ ⟨u', _, _, _, rfl, rfl, by simp; omega, fun post' e => ?_⟩
      have : post' = post := by
        rw [eq, List.append_assoc, List.append_cancel_left_eq] at e
        simpa using e.symm
      rw [this]
      exact hr'
  · rintro ρ U ⟨u, o3, o4, o5, rfl, rfl, ul, hr⟩
    have := hr [] (by simp)
    rw [ringF] at this
    refine kn _ _ ?_
    simp_arith []
    refine wp_out_d ⟨?_, tk_app⟩
    rw [← this]
end
end Z
set_option Elab.async false
set_option linter.all false
set_option maxRecDepth 100000
set_option maxHeartbeats 1000000
/-! series: places with two ties at most are dropped -/
namespace Z
open PySem PySem.Spec PyProof.Rows L2 MV
abbrev NG := Int → List Int
def updG (g : NG) (a : Int) (l : List Int) : NG := fun x => if x = a then l else g x
def preG (g : NG) (p : Int) (pre : List Int) : NG := fun x => if x ∈ pre then (g x).erase p else g x
def addG (g : NG) (s : List Int) : NG := match s with
  | [a, b] => if b ∈ g a then g else updG (updG g a (g a ++ [b])) b (g b ++ [a])
  | _ => g
def dropG (g : NG) (p : Int) : NG := addG (preG g p (g p)) (g p)
def dropL (K : List Int) (p : Int) : List Int := K.filter fun x => decide (x ≠ p)
def serF : Nat → List Int → NG → List Int → Bool
  | 0, K, _, _ => K.isEmpty
  | f + 1, K, g, wt => match wt.getLast? with
    | none => K.isEmpty
    | some p => if p ∈ K ∧ (g p).length ≤ 2 then serF f (dropL K p) (dropG g p) (wt.dropLast ++ g p) else serF f K g wt.dropLast
def serB (W : Web) : Bool := serF (4 * W.1.length + 1) W.1 (adjL W.2) W.1
structure SG (P K : List Int) (g : NG) : Prop where
  nd : K.Nodup
  sub : ∀ x ∈ K, x ∈ P
  gn : ∀ x ∈ K, (g x).Nodup
  gm : ∀ x ∈ K, ∀ y ∈ g x, y ∈ K ∧ y ≠ x ∧ x ∈ g y
section
variable {P K : List Int} {g : NG} {p : Int}
theorem mem_dropL {x : Int} : x ∈ dropL K p ↔ x ∈ K ∧ x ≠ p := by unfold dropL; rw [List.mem_filter]; simp
theorem SG.mem1 (h : SG P K g) (hp : p ∈ K) {x : Int} (hx : x ∈ K) (hxp : x ≠ p) {y : Int} : y ∈ preG g p (g p) x ↔ y ∈ g x ∧ y ≠ p := by
  unfold preG
  split
  · rw [(h.gn x hx).mem_erase_iff]
    exact ⟨fun h => ⟨h.2, h.1⟩, fun h => ⟨h.2, h.1⟩⟩
  · rename_i m
    exact ⟨fun hy => ⟨hy, fun e => m (by subst e; exact (h.gm x hx _ hy).2.2)⟩, fun h => h.1⟩
theorem SG.drop1 (h : SG P K g) (hp : p ∈ K) : SG P (dropL K p) (preG g p (g p)) where
  nd := h.nd.sublist List.filter_sublist
  sub := fun x hx => h.sub x (mem_dropL.mp hx).1
  gn := fun x hx => by
    have hx := mem_dropL.mp hx
    unfold preG
    split
    · exact (h.gn x hx.1).erase p
    · exact h.gn x hx.1
  gm := fun x hx y hy => by
    have hx := mem_dropL.mp hx
    have hy := (h.mem1 hp hx.1 hx.2).mp hy
    obtain ⟨a1, a2, a3⟩ := h.gm x hx.1 y hy.1
    exact ⟨mem_dropL.mpr ⟨a1, hy.2⟩, a2, (h.mem1 hp a1 hy.2).mpr ⟨a3, hx.2⟩⟩
theorem SG.drop (h : SG P K g) (hp : p ∈ K) : SG P (dropL K p) (dropG g p) := by
  have h1 := h.drop1 hp
  have inn : ∀ y ∈ g p, y ∈ dropL K p := fun y hy => mem_dropL.mpr ⟨(h.gm p hp y hy).1, (h.gm p hp y hy).2.1⟩
  have nd := h.gn p hp
  unfold dropG
  generalize preG g p (g p) = g1 at *
  generalize g p = s at *
  unfold addG
  split
  · rename_i a b
    split
    · exact h1
    · rename_i m
      have hab : a ≠ b := fun e => by rw [e] at nd; simp at nd
      have ha := inn a (by simp)
      have hb := inn b (by simp)
      have m' : a ∉ g1 b := fun q => m (h1.gm b hb a q).2.2
      have val : ∀ x, updG (updG g1 a (g1 a ++ [b])) b (g1 b ++ [a]) x = if x = b then g1 b ++ [a] else if x = a then g1 a ++ [b] else g1 x := fun x => rfl
      have mem : ∀ x y, y ∈ updG (updG g1 a (g1 a ++ [b])) b (g1 b ++ [a]) x ↔ y ∈ g1 x ∨ (x = a ∧ y = b) ∨ (x = b ∧ y = a) := fun x y => by
        rw [val]
        by_cases e1 : x = b
        · subst e1
          rw [if_pos rfl, List.mem_append, List.mem_singleton]
          constructor
          · rintro (q | q)
            · exact .inl q
            · exact .inr (.inr ⟨rfl, q⟩)
          · rintro (q | ⟨q, _⟩ | ⟨_, q⟩)
            · exact .inl q
            · exact absurd q.symm hab
            · exact .inr q
        · rw [if_neg e1]
          by_cases e2 : x = a
          · subst e2
            rw [if_pos rfl, List.mem_append, List.mem_singleton]
            constructor
            · rintro (q | q)
              · exact .inl q
              · exact .inr (.inl ⟨rfl, q⟩)
            · rintro (q | ⟨_, q⟩ | ⟨q, _⟩)
              · exact .inl q
              · exact .inr q
              · exact absurd q hab
          · rw [if_neg e2]
            exact ⟨.inl, fun q => q.elim id fun q => q.elim (fun z => absurd z.1 e2) fun z => absurd z.1 e1⟩
      refine ⟨h1.nd, h1.sub, fun x hx => ?_, fun x hx y hy => ?_⟩
      · rw [val]
        by_cases e1 : x = b
        · rw [if_pos e1, List.nodup_append]
          exact ⟨h1.gn b hb, by simp, fun u hu v hv e => m' (by rw [List.mem_singleton.mp hv] at e; rw [← e]; exact hu)⟩
        · rw [if_neg e1]
          by_cases e2 : x = a
          · rw [if_pos e2, List.nodup_append]
            exact ⟨h1.gn a ha, by simp, fun u hu v hv e => m (by rw [List.mem_singleton.mp hv] at e; rw [← e]; exact hu)⟩
          · rw [if_neg e2]
            exact h1.gn x hx
      · rcases (mem x y).mp hy with q | ⟨rfl, rfl⟩ | ⟨rfl, rfl⟩
        · obtain ⟨a1, a2, a3⟩ := h1.gm x hx y q
          exact ⟨a1, a2, (mem y x).mpr (.inl a3)⟩
        · exact ⟨hb, Ne.symm hab, (mem _ _).mpr (.inr (.inr ⟨rfl, rfl⟩))⟩
        · exact ⟨ha, hab, (mem _ _).mpr (.inr (.inl ⟨rfl, rfl⟩))⟩
  · exact h1
end
/-! the store -/
def rcdK (n : Nat) (P K : List Int) : List (Key × Itm) := K.map fun p => (.inl p, .c (n + P.idxOf p))
theorem keyC_rcd {n : Nat} {P : List Int} (nd : P.Nodup) : keyC n P = rcdK n P P := by
  have key : ∀ (R L : List Int), P = L ++ R → keyC (n + L.length) R = rcdK n P R := fun R => by
    induction R with
    | nil => exact fun L _ => rfl
    | cons p R ih =>
      intro L e
      have ih := ih (L ++ [p]) (by rw [e]; simp)
      rw [List.length_append, List.length_singleton] at ih
      have nl : p ∉ L := fun m => by
        rw [e, List.nodup_append] at nd
        exact nd.2.2 p m p (by simp) rfl
      have ix : P.idxOf p = L.length := by
        rw [e, List.idxOf_append]
        simp [nl]
      rw [keyC, show n + L.length + 1 = n + (L.length + 1) from rfl, ih]
      unfold rcdK
      rw [List.map_cons, ix]
  exact key P [] rfl
theorem rcdK_look {n : Nat} {P K : List Int} {a : Int} : rLook (rcdK n P K) (.inl a) = if a ∈ K then some (.c (n + P.idxOf a)) else none := by
  unfold rLook rcdK
  induction K with
  | nil => rfl
  | cons p K ih =>
    rw [List.map_cons, List.find?_cons]
    by_cases e : p = a
    · subst e
      simp
    · have e2 : decide ((Sum.inl p : Key) = Sum.inl a) = false := decide_eq_false fun q => e (Sum.inl.inj q)
      simp only [e2]
      rw [ih]
      simp [Ne.symm e]
theorem rcdK_drop {n : Nat} {P K : List Int} {a : Int} : rDrop (rcdK n P K) (.inl a) = rcdK n P (dropL K a) := by
  unfold rDrop rcdK dropL
  rw [List.filter_map]
  congr 1
  refine List.filter_congr fun x _ => ?_
  dsimp only [Function.comp]
  rw [decide_eq_decide]
  exact ⟨fun h e => h (by rw [e]), fun h e => h (Sum.inl.inj e)⟩
def serS (S : Sto) (P K : List Int) (g : NG) (wt : List Int) : Sto := S ++ ((P.map fun p => Cell.lst (dI (g p))) ++ [.rcd (rcdK S.length P K), .lst (dI wt)])
section
variable {S : Sto} {P K : List Int} {g : NG} {wt l : List Int} {a p : Int}
theorem ser_r : (serS S P K g wt)[S.length + P.length]? = some (.rcd (rcdK S.length P K)) := by
  unfold serS
  rw [st_get, List.getElem?_append_right (by simp)]
  simp
theorem ser_w : (serS S P K g wt)[S.length + P.length + 1]? = some (.lst (dI wt)) := by
  unfold serS
  rw [Nat.add_assoc, st_get, List.getElem?_append_right (by simp)]
  simp
theorem ser_l (h : a ∈ P) : (serS S P K g wt)[S.length + P.idxOf a]? = some (.lst (dI (g a))) := by
  obtain ⟨hi, e⟩ := idx_get h
  unfold serS
  rw [st_get, List.getElem?_append_left (by simpa using hi), List.getElem?_map, List.getElem?_eq_getElem hi, e]
  rfl
theorem ser_setl (nd : P.Nodup) (h : a ∈ P) : (serS S P K g wt).set (S.length + P.idxOf a) (.lst (dI l)) = serS S P K (updG g a l) wt := by
  unfold serS
  rw [st_set, List.set_append_left _ _ (by simpa using List.idxOf_lt_length_of_mem h), set_map _ _ nd h]
  congr 2
  refine List.map_congr_left fun x _ => ?_
  unfold updG
  split <;> rfl
theorem ser_setr {K' : List Int} : (serS S P K g wt).set (S.length + P.length) (.rcd (rcdK S.length P K')) = serS S P K' g wt := by
  unfold serS
  rw [st_set, List.set_append_right _ _ (by simp)]
  simp
theorem ser_setw {wt' : List Int} : (serS S P K g wt).set (S.length + P.length + 1) (.lst (dI wt')) = serS S P K g wt' := by
  unfold serS
  rw [Nat.add_assoc, st_set, List.set_append_right _ _ (by simp)]
  simp
theorem ser_ix (h : a ∈ K) : gIxR (.c (S.length + P.length)) (.d (.int a)) (serS S P K g wt) = .ok (.c (S.length + P.idxOf a)) (serS S P K g wt) := by
  unfold gIxR MV.rIx
  simp only [ser_r, kOf_int, rcdK_look, if_pos h, Option.map_some]
  rfl
theorem ser_in : gNotInR (.d (.int a)) (.c (S.length + P.length)) (serS S P K g wt) = .ok (.d (.bool (!decide (a ∈ K)))) (serS S P K g wt) := by
  unfold gNotInR MV.rIn
  simp only [ser_r, kOf_int, rcdK_look]
  by_cases h : a ∈ K
  · simp [h]
  · simp [h]
theorem ser_pop (h : p ∈ K) : gPopR (.c (S.length + P.length)) [.d (.int p)] (serS S P K g wt) = .ok (.c (S.length + P.idxOf p)) (serS S P (dropL K p) g wt) := by
  unfold gPopR
  dsimp only
  rw [ser_r]
  dsimp only
  rw [kOf_int]
  dsimp only
  rw [rcdK_look, if_pos h]
  dsimp only
  rw [rcdK_drop, ser_setr]
  rfl
theorem ser_eq : gEqR (.c (S.length + P.length)) (.d (.dict [])) (serS S P K g wt) = .ok (.d (.bool K.isEmpty)) (serS S P K g wt) := by
  unfold gEqR MV.rLen
  simp only [ser_r]
  have : ((rcdK S.length P K).length == 0) = K.isEmpty := by
    unfold rcdK
    rw [List.length_map]
    cases K <;> rfl
  rw [this]
theorem ser_rl : MV.rLen (serS S P K g wt) (.c (S.length + P.length)) = some (rcdK S.length P K).length := by
  unfold MV.rLen
  simp only [ser_r]
theorem updG_congr {g' : NG} (h : ∀ x ∈ P, g x = g' x) : serS S P K g wt = serS S P K g' wt := by
  unfold serS
  congr 2
  exact List.map_congr_left fun x hx => by rw [h x hx]
theorem rem_cI {S : Sto} {n : Nat} {ns : List Int} {k : Int} (h : S[n]? = some (.lst (dI ns))) (hk : k ∈ ns) : gRemove (.c n) [.d (.int k)] S = .ok (.d .none) (S.set n (.lst (dI (ns.erase k)))) := by
  unfold gRemove cellL
  dsimp only
  rw [h]
  dsimp only
  rw [ints_dI]
  dsimp only
  rw [if_pos hk]
theorem popLast {S : Sto} {n : Nat} {w : List Int} {x : Int} (h : S[n]? = some (.lst (dI (w ++ [x])))) : gPop (.c n) [] S = .ok (.d (.int x)) (S.set n (.lst (dI w))) := by
  rw [show dI (w ++ [x]) = dI w ++ [.int x] by simp] at h
  exact popl_c h
end
end Z
set_option Elab.async false
set_option linter.all false
set_option maxRecDepth 100000
set_option maxHeartbeats 1000000
/-! is_series walked; is_kind, kinds -/
namespace Z
open PySem PySem.Spec PyProof.Rows L2 MV
local macro_rules | `(tactic| simp_arith [$ls,*]) => `(tactic| simp only [e_V, e_K, e_2, e_tst, e_bAnd, e_bOr, e_bNot, e_And, e_Or, e_Not, e_If, e_Un, e_Chain, e_aNil, e_aCons, e_Tup, e_Lst, datas_nil, datas_d, e_Call, e_sNil, e_sBk, e_sCt, e_sEx, e_sRt, e_sRtN, e_sIf, e_sSet, e_sCell, e_sAsg, e_sPar, e_sPar3, e_sMul, e_setAll, e_setAll0, e_aCell, e_sPut, e_sAug, e_Isi, e_oNo, e_oYes, e_Sl, go_name, go_tup, goL_nil, goL_cons, go_P, go_W, e_bYes, th_d, th_c, th_z, th_f, th_fd, data_lst, data_dic, bind_ok, wp_ok, if_true, if_false, ite_true, ite_false, decide_true, decide_false, Bool.not_true, Bool.not_false, Bool.false_eq_true, Bool.true_eq_false, List.getElem?_cons_zero, List.getElem?_cons_succ, List.set_cons_zero, List.set_cons_succ, List.map_cons, List.map_nil, List.replicate, List.cons_append, List.nil_append, Option.map_some, List.length_cons, List.length_nil, Nat.reduceAdd, Nat.reduceSub, Nat.reduceLeDiff, Nat.zero_le, Nat.zero_add, o_sub, o_add, o_lt, o_le, o_gt, o_ge, o_eqI, o_neI, o_eqS, o_neS, g_lenT, g_lenL, g_lenZ, g_tupT, g_tupL, g_listT, g_listL, g_intB, g_intI, g_min2, g_max2, e_Dic0, e_dNil, e_dCons, BEq.rfl, $ls,*])
local macro_rules | `(tactic| simp_all_arith [$ls,*]) => `(tactic| (refine wp_seq fun K kn kr => ?_; simp_arith [$ls,*]; (first | refine kn _ _ ?_ | refine kr _ _ ?_); clear kn kr K))
section
variable {W : Web} {S : Sto}
theorem tiedG_cell {K : Fw → Sto → Prop} (h : Wn W) (o2 o3 o4 o5 : Option Val) (q : K (.nx [some (.d (pW W)), some (.c (S.length + W.1.length)), o2, o3, o4, o5]) (S ++ (adjC W.1 W.2 ++ [.rcd (keyC S.length W.1)]))) : wp (sCell 1 (evCall m_tied_to__G (aCons (evV 0) (aNil))) [some (.d (pW W)), none, o2, o3, o4, o5] S) K := by
  have te : m_tied_to__G [.d (pW W)] S = .ok (if W.1 = [] then .f (.rcd []) else .g (adjC W.1 W.2 ++ [.rcd (keyC S.length W.1)]) W.1.length) S := tiedG_eq h
  by_cases c : W.1 = []
  · rw [if_pos c] at te
    simp_arith [te]
    rw [c] at q
    exact q
  · rw [if_neg c] at te
    simp_arith [te]
    exact q
theorem adj_gn (h : Wn W) (rt : W.2.Nodup) (lt : ∀ t ∈ W.2, t.1 < t.2) : SG W.1 W.1 (adjL W.2) where
  nd := h.nd
  sub := fun x hx => hx
  gn := fun x hx => by
    have key : ∀ T : List (Int × Int), T.Nodup → (∀ t ∈ T, t.1 < t.2) → (adjL T x).Nodup := fun T => by
      induction T with
      | nil => exact fun _ _ => List.nodup_nil
      | cons t T ih =>
        intro nd hl
        have nd' := List.nodup_cons.mp nd
        have ih := ih nd'.2 fun u hu => hl u (by simp [hu])
        have tl := hl t (by simp)
        have e : adjL (t :: T) x = adjT x t ++ adjL T x := by unfold adjL; simp
        rw [e, List.nodup_append]
        refine ⟨?_, ih, fun u hu v hv huv => ?_⟩
        · unfold adjT
          by_cases a : t.1 = x
          · by_cases b : t.2 = x
            · omega
            · rw [if_pos a, if_neg b]; simp
          · by_cases b : t.2 = x
            · rw [if_neg a, if_pos b]; simp
            · rw [if_neg a, if_neg b]; simp
        · subst huv
          have hv := mem_adjL.mp hv
          unfold adjT at hu
          rcases List.mem_append.mp hu with hu | hu
          · split at hu
            · rename_i a
              have eu := List.mem_singleton.mp hu
              rcases hv with m | m
              · exact nd'.1 (by rw [← a, eu] at m; exact m)
              · have := hl _ (List.mem_cons_of_mem _ m)
                dsimp only at this
                omega
            · cases hu
          · split at hu
            · rename_i a
              have eu := List.mem_singleton.mp hu
              rcases hv with m | m
              · have := hl _ (List.mem_cons_of_mem _ m)
                dsimp only at this
                omega
              · exact nd'.1 (by rw [← a, eu] at m; exact m)
            · cases hu
    exact key W.2 rt lt
  gm := fun x hx y hy => by
    have nb := adj_nbr.mp hy
    have := h.nb _ _ nb
    exact ⟨this.1, this.2, adj_nbr.mpr nb.symm⟩
theorem ser_fuel {P : List Int} : ∀ {m : Nat} {f f' : Nat} {K : List Int} {g : NG} {wt : List Int}, SG P K g → wt.length + 3 * K.length ≤ m → m < f → m < f' → serF f K g wt = serF f' K g wt := by
  have key : ∀ (m : Nat) (f f' : Nat) (K : List Int) (g : NG) (wt : List Int), SG P K g → wt.length + 3 * K.length ≤ m → m < f → m < f' → serF f K g wt = serF f' K g wt := fun m => by
    induction m with
    | zero =>
      intro f f' K g wt sg hm h1 h2
      obtain ⟨f, rfl⟩ : ∃ k, f = k + 1 := ⟨f - 1, by omega⟩
      obtain ⟨f', rfl⟩ : ∃ k, f' = k + 1 := ⟨f' - 1, by omega⟩
      have : wt = [] := List.length_eq_zero_iff.mp (by omega)
      subst this
      rfl
    | succ m ih =>
      intro f f' K g wt sg hm h1 h2
      obtain ⟨f, rfl⟩ : ∃ k, f = k + 1 := ⟨f - 1, by omega⟩
      obtain ⟨f', rfl⟩ : ∃ k, f' = k + 1 := ⟨f' - 1, by omega⟩
      rcases List.eq_nil_or_concat wt with w0 | ⟨w, p, w0⟩
      · subst w0; rfl
      · subst w0
        rw [serF, serF]
        simp only [List.concat_eq_append, List.getLast?_append, List.getLast?_singleton, Option.some_or, List.dropLast_concat]
        simp at hm
        split
        · rename_i c
          refine ih f f' _ _ _ (sg.drop c.1) ?_ (by omega) (by omega)
          have kp : (dropL K p).length + 1 ≤ K.length := by
            have : (dropL K p).Sublist K := List.filter_sublist
            have l1 := sub_len (xs := p :: dropL K p) (ys := K) (List.nodup_cons.mpr ⟨fun m => (mem_dropL.mp m).2 rfl, sg.nd.sublist this⟩) fun x hx => by
              rcases List.mem_cons.mp hx with rfl | hx
              · exact c.1
              · exact (mem_dropL.mp hx).1
            simpa using l1
          rw [List.length_append]
          omega
        · exact ih f f' _ _ _ sg (by omega) (by omega) (by omega)
  exact fun {m f f' K g wt} => key m f f' K g wt
theorem addG_same {g1 : NG} {s : List Int} {p : Int} (h : p ∉ s) : addG g1 s p = g1 p := by
  rcases s with _ | ⟨a, _ | ⟨b, _ | ⟨c, r⟩⟩⟩
  · rfl
  · rfl
  · show (if b ∈ g1 a then g1 else updG (updG g1 a (g1 a ++ [b])) b (g1 b ++ [a])) p = g1 p
    by_cases m : b ∈ g1 a
    · rw [if_pos m]
    · rw [if_neg m]
      unfold updG
      rw [if_neg (fun e => h (by rw [e]; simp)), if_neg (fun e => h (by rw [e]; simp))]
  · rfl
structure Ws (W : Web) : Prop where
  k : Wk W
  rt : W.2.Nodup
  lt : ∀ t ∈ W.2, t.1 < t.2
theorem series_eq (h : Ws W) : m_is_series [.d (pW W)] S = .ok (.d (.bool (serB W))) S := by
  have hz := hzK
  have pl := h.k.pl
  have nd := h.k.n.nd
  refine eq_of_wp (wp_fn rfl ?_)
  simp only [List.map_cons, List.map_nil, List.replicate, List.cons_append, List.nil_append, Nat.reduceSub]
  refine wp_seqN fun K kn => ?_
  refine tiedG_cell h.k.n none none none none (kn _ _ ?_)
  clear kn K
  refine wp_seqN fun K kn => ?_
  have gl : ∀ U : Sto, gList [.d (pT W.1)] U = .ok (.f (.lst (dI W.1))) U := fun U => rfl
  simp_arith [g0T, gl]
  refine kn _ _ ?_
  clear kn K
  have s0 : S ++ (adjC W.1 W.2 ++ [.rcd (keyC S.length W.1)]) ++ [Cell.lst (dI W.1)] = serS S W.1 W.1 (adjL W.2) W.1 := by
    unfold serS adjC
    rw [keyC_rcd nd]
    simp
  have l0 : (S ++ (adjC W.1 W.2 ++ [Cell.rcd (keyC S.length W.1)])).length = S.length + W.1.length + 1 := by simp [adjC]; omega
  rw [s0, l0]
  have hB : serB W = serF (4 * W.1.length + 1) W.1 (adjL W.2) W.1 := rfl
  have sg0 := adj_gn h.k.n h.rt h.lt
  obtain ⟨P, T⟩ := W
  dsimp only at *
  generalize serB (P, T) = B at *
  generalize adjL T = g0 at *
  refine wp_seqN fun Kw kw => ?_
  refine wp_whileC (fun m ρ U => ∃ K g wt o3 o4 o5, ρ = [some (.d (pW (P, T))), some (.c (S.length + P.length)), some (.c (S.length + P.length + 1)), o3, o4, o5] ∧ U = serS S P K g wt ∧ SG P K g ∧ m = wt.length + 3 * K.length ∧ m ≤ 4 * P.length ∧ ∀ f, m < f → serF f K g wt = B) ?_ 1000000 (P.length + 3 * P.length) _ _ (by omega) ⟨P, g0, P, none, none, none, rfl, rfl, sg0, rfl, by omega, ?_⟩
  · rintro m ρ U ⟨K, g, wt, o3, o4, o5, rfl, rfl, sg, rfl, ml, hf⟩ K0 kt kf
    have ne := ne_nilI (ser_w (S := S) (P := P) (K := K) (g := g) (wt := wt))
    have hw := ser_w (S := S) (P := P) (K := K) (g := g) (wt := wt)
    generalize hU : serS S P K g wt = U at ne hw ⊢
    rcases List.eq_nil_or_concat wt with w0 | ⟨w, p, w0⟩
    · rw [decide_eq_true w0] at ne
      simp_arith [ne]
      subst w0
      refine kf _ (kw _ _ ?_)
      have eB := hf (0 + 3 * K.length + 1) (by simp)
      rw [serF] at eB
      have eB : K.isEmpty = B := eB
      subst hU
      have se := ser_eq (S := S) (P := P) (K := K) (g := g) (wt := [])
      rw [eB] at se
      have tk : List.take S.length (serS S P K g []) = S := by unfold serS; exact tk_app
      generalize serS S P K g [] = U at *
      simp_arith [se]
      exact wp_out_d ⟨rfl, tk⟩
    · have w0 : wt = w ++ [p] := by rw [w0]; simp
      rw [decide_eq_false (by rw [w0]; simp)] at ne
      simp_arith [ne]
      refine kt _ fun K2 k2 kc2 _ _ => ?_
      subst w0
      have po := popLast hw
      have tyw := ty_list hw
      rw [← hU, ser_setw, hU] at po
      refine wp_seqN fun K3 k3 => ?_
      rw [e_sSet, mt_eval (v := .c (S.length + P.length + 1)) (S1 := U) rfl tyw]
      simp_arith [po]
      refine k3 _ _ ?_
      clear k3 K3 po tyw ne hw
      subst hU
      have wl : w.length + 1 + 3 * K.length ≤ 4 * P.length := by simpa using ml
      -- what the next step is worth
      have nx : ∀ K' g' wt' , (∀ f, serF (f + 1) K g (w ++ [p]) = serF f K' g' wt') → wt'.length + 3 * K'.length ≤ w.length + 3 * K.length → SG P K' g' → ∀ o3 o4 o5, K2 (.nx [some (.d (pW (P, T))), some (.c (S.length + P.length)), some (.c (S.length + P.length + 1)), o3, o4, o5]) (serS S P K' g' wt') ∧ K2 (.ct [some (.d (pW (P, T))), some (.c (S.length + P.length)), some (.c (S.length + P.length + 1)), o3, o4, o5]) (serS S P K' g' wt') := fun K' g' wt' e1 e2 e3 o3 o4 o5 => by
        have q : ∀ f, wt'.length + 3 * K'.length < f → serF f K' g' wt' = B := fun f hf' => by
          rw [ser_fuel e3 (Nat.le_refl _) hf' (f' := f + (w.length + 1 + 3 * K.length)) (by omega), ← e1]
          exact hf _ (by simp; omega)
        refine ⟨k2 (wt'.length + 3 * K'.length) _ _ (by simp; omega) ⟨K', g', wt', o3, o4, o5, rfl, rfl, e3, rfl, by omega, q⟩, kc2 (wt'.length + 3 * K'.length) _ _ (by simp; omega) ⟨K', g', wt', o3, o4, o5, rfl, rfl, e3, rfl, by omega, q⟩⟩
      have step : ∀ f, serF (f + 1) K g (w ++ [p]) = if p ∈ K ∧ (g p).length ≤ 2 then serF f (dropL K p) (dropG g p) (w ++ g p) else serF f K g w := fun f => by
        rw [serF]
        simp
      have skip : ¬ (p ∈ K ∧ (g p).length ≤ 2) → ∀ o3 o4 o5, K2 (.ct [some (.d (pW (P, T))), some (.c (S.length + P.length)), some (.c (S.length + P.length + 1)), o3, o4, o5]) (serS S P K g w) := fun no o3 o4 o5 => (nx K g w (fun f => by rw [step, if_neg no]) (Nat.le_refl _) sg o3 o4 o5).2
      have i1 := ser_in (S := S) (P := P) (K := K) (g := g) (wt := w) (a := p)
      by_cases pk : p ∈ K
      case neg =>
        rw [decide_eq_false pk] at i1
        generalize serS S P K g w = U at i1 skip ⊢
        refine wp_seqL fun K3 k3 _ _ kc3 => ?_
        simp_arith [i1]
        exact kc3 _ _ (skip (fun z => pk z.1) _ _ _)
      rw [decide_eq_true pk] at i1
      have pP := sg.sub p pk
      have x1 := ser_ix (S := S) (P := P) (g := g) (wt := w) pk
      have hl := ser_l (S := S) (K := K) (g := g) (wt := w) pP
      have ln := g_lenC hl
      rw [show (dI (g p)).length = (g p).length by simp] at ln
      by_cases dg : (g p).length ≤ 2
      case neg =>
        have dg' : (2 : Int) < ((g p).length : Nat) := by omega
        generalize serS S P K g w = U at i1 x1 ln skip ⊢
        refine wp_seqL fun K3 k3 _ _ kc3 => ?_
        simp_arith [i1, x1, ln, decide_eq_true dg']
        exact kc3 _ _ (skip (fun z => dg z.2) _ _ _)
      have dg' : ¬ (2 : Int) < ((g p).length : Nat) := by omega
      have kp : (dropL K p).length + 1 ≤ K.length := by
        have : (dropL K p).Sublist K := List.filter_sublist
        have l1 := sub_len (xs := p :: dropL K p) (ys := K) (List.nodup_cons.mpr ⟨fun m => (mem_dropL.mp m).2 rfl, sg.nd.sublist this⟩) fun x hx => by
          rcases List.mem_cons.mp hx with rfl | hx
          · exact pk
          · exact (mem_dropL.mp hx).1
        simpa using l1
      have nx := nx (dropL K p) (dropG g p) (w ++ g p) (fun f => by rw [step, if_pos ⟨pk, dg⟩]) (by rw [List.length_append]; omega) (sg.drop pk)
      refine wp_seqN fun K3 k3 => ?_
      have pp := ser_pop (S := S) (P := P) (g := g) (wt := w) pk
      have rl := ser_rl (S := S) (P := P) (K := K) (g := g) (wt := w)
      generalize hU : serS S P K g w = U at i1 x1 ln pp rl ⊢
      simp_arith [i1, x1, ln, decide_eq_false dg']
      refine k3 _ _ ?_
      clear k3 K3
      refine wp_seqN fun K3 k3 => ?_
      simp_arith [show ∀ (m : Val → List Val → Sto → Res Val) (f : Sx) (a : SA) ρ S, evMtR m f a ρ S = (f ρ S).bind fun v S1 => match MV.rLen S1 v.th with
        | some _ => (a ρ S1).bind fun vs S2 => m v.th vs S2
        | none => .no from fun _ _ _ _ _ => rfl, rl, pp]
      refine k3 _ _ ?_
      clear k3 K3 i1 x1 ln pp rl hU hl
      -- each neighbour's list loses the place
      have gnd := sg.gn p pk
      have gmm := sg.gm p pk
      have pre0 : serS S P (dropL K p) g w = serS S P (dropL K p) (preG g p []) w := updG_congr fun x hx => by unfold preG; rw [if_neg (by simp)]
      rw [pre0]
      have same : ∀ pre : List Int, p ∉ pre → preG g p pre p = g p := fun pre hp => by unfold preG; rw [if_neg hp]
      have pn : p ∉ g p := fun m => (gmm p m).2.1 rfl
      have hlp : ∀ pre : List Int, p ∉ pre → (serS S P (dropL K p) (preG g p pre) w)[S.length + P.idxOf p]? = some (.lst (dI (g p))) := fun pre hp => by rw [ser_l pP, same pre hp]
      refine wp_seqN fun K3 k3 => ?_
      refine wp_forK (fun (pre : List Int) ρ U => ∃ o5, ρ = [some (.d (pW (P, T))), some (.c (S.length + P.length)), some (.c (S.length + P.length + 1)), some (.d (.int p)), some (.c (S.length + P.idxOf p)), o5] ∧ U = serS S P (dropL K p) (preG g p pre) w ∧ p ∉ pre) (g p) PyData.int (s := ⟨dI (g p), [(S.length + P.idxOf p, dI (g p))]⟩) (S1 := serS S P (dropL K p) (preG g p []) w) (by
        have := hlp [] (by simp)
        generalize serS S P (dropL K p) (preG g p []) w = U at this ⊢
        simp_arith [e_iSeq, seq_c, this]) rfl (fun pre ρ U hI q hq => by
          obtain ⟨_, _, rfl, hp⟩ := hI
          rw [List.mem_singleton.mp hq]
          exact hlp pre hp) ⟨o5, rfl, rfl, by simp⟩ ?_ ?_
      · rintro pre one post ρ U eq ⟨o5, rfl, rfl, hp⟩
        have hone : one ∈ g p := by rw [eq]; simp
        obtain ⟨ok1, one_ne, pin⟩ := gmm one hone
        have okd : one ∈ dropL K p := mem_dropL.mpr ⟨ok1, one_ne⟩
        have onP := sg.sub one ok1
        have onp : one ∉ pre := fun m => by
          rw [eq] at gnd
          have := (List.nodup_append.mp gnd).2.2 one m one (by simp)
          exact this rfl
        refine ⟨_, rfl, fun K4 k4 _ => ?_⟩
        have x1 := ser_ix (S := S) (P := P) (g := preG g p pre) (wt := w) okd
        have c1 := ser_l (S := S) (K := dropL K p) (g := preG g p pre) (wt := w) onP
        have g1 : preG g p pre one = g one := by unfold preG; rw [if_neg onp]
        rw [g1] at c1
        have rm := rem_cI c1 pin
        rw [ser_setl (by exact nd) onP] at rm
        have up : serS S P (dropL K p) (updG (preG g p pre) one ((g one).erase p)) w = serS S P (dropL K p) (preG g p (pre ++ [one])) w := updG_congr fun x hx => by
          unfold updG preG
          by_cases e : x = one
          · subst e
            simp
          · simp [e]
        rw [up] at rm
        have tyc := ty_list c1
        generalize hU : serS S P (dropL K p) (preG g p pre) w = U at *
        simp only [List.set_cons_zero, List.set_cons_succ]
        rw [e_sEx, mt_eval (v := .c (S.length + P.idxOf one)) (S1 := U) (by simp_arith [x1]) tyc]
        simp_arith [rm]
        exact k4 _ _ ⟨_, rfl, rfl, fun m => by
          rcases List.mem_append.mp m with m | m
          · exact hp m
          · exact one_ne (List.mem_singleton.mp m).symm⟩
      · rintro ρ U ⟨o5, rfl, rfl, hp⟩
        refine k3 _ _ ?_
        clear k3 K3 pre0
        have sg1 := sg.drop1 pk
        have inn : ∀ y ∈ g p, y ∈ dropL K p := fun y hy => mem_dropL.mpr ⟨(gmm y hy).1, (gmm y hy).2.1⟩
        have hlc := hlp (g p) pn
        have e2 : dropG g p = addG (preG g p (g p)) (g p) := rfl
        have gp1 : preG g p (g p) p = g p := same _ pn
        rw [e2] at nx
        generalize preG g p (g p) = g1 at *
        -- the two neighbours are tied
        refine wp_seqN fun K3 k3 => ?_
        have fin : ∀ o5, K3 (.nx [some (.d (pW (P, T))), some (.c (S.length + P.length)), some (.c (S.length + P.length + 1)), some (.d (.int p)), some (.c (S.length + P.idxOf p)), o5]) (serS S P (dropL K p) (addG g1 (g p)) w) := fun o5 => by
          refine k3 _ _ ?_
          have same2 : addG g1 (g p) p = g p := (addG_same pn).trans gp1
          have hp2 := ser_l (S := S) (K := dropL K p) (g := addG g1 (g p)) (wt := w) pP
          rw [same2] at hp2
          have hw2 := ser_w (S := S) (P := P) (K := dropL K p) (g := addG g1 (g p)) (wt := w)
          have ex := ext_c (w := .c (S.length + P.idxOf p)) (es := dI (g p)) hw2 (by rw [asL_c, hp2]) (by simp; omega)
          rw [show dI w ++ dI (g p) = dI (w ++ g p) by simp, ser_setw] at ex
          have tyw := ty_list hw2
          generalize serS S P (dropL K p) (addG g1 (g p)) w = U at *
          rw [e_sEx, mt_eval (v := .c (S.length + P.length + 1)) (S1 := U) rfl tyw]
          simp_arith [ex]
          exact (nx _ _ _).1
        have ln := g_lenC hlc
        rw [show (dI (g p)).length = (g p).length by simp] at ln
        by_cases two : (g p).length = 2
        case neg =>
          have two' : ((((g p).length : Nat) : Int) == 2) = false := by simp; omega
          have ad0 : addG g1 (g p) = g1 := by
            unfold addG
            split
            · rename_i a b hs
              rw [hs] at two
              exact absurd rfl two
            · rfl
          rw [ad0] at fin
          generalize serS S P (dropL K p) g1 w = U at fin ln hlc ⊢
          simp_arith [ln, two']
          exact fin _
        obtain ⟨a, b, hs⟩ : ∃ a b, g p = [a, b] := by
          rcases hgp : g p with _ | ⟨a, _ | ⟨b, _ | ⟨c, r⟩⟩⟩
          · rw [hgp] at two; simp at two
          · rw [hgp] at two; simp at two
          · exact ⟨a, b, rfl⟩
          · rw [hgp] at two; simp at two
        rw [hs] at hlc ln inn fin gnd
        have ln : MV.g1 fLen [.c (S.length + P.idxOf p)] (serS S P (dropL K p) g1 w) = .ok (.d (.int 2)) (serS S P (dropL K p) g1 w) := ln
        have hab : a ≠ b := fun e => by rw [e] at gnd; simp at gnd
        have ha := inn a (by simp)
        have hb := inn b (by simp)
        have aP := sg1.sub a ha
        have bP := sg1.sub b hb
        have ia : gIx (.c (S.length + P.idxOf p)) (.d (.int 0)) (serS S P (dropL K p) g1 w) = .ok (.d (.int a)) (serS S P (dropL K p) g1 w) := by
          rw [o_ixC hlc]
          rfl
        have ib : gIx (.c (S.length + P.idxOf p)) (.d (.int 1)) (serS S P (dropL K p) g1 w) = .ok (.d (.int b)) (serS S P (dropL K p) g1 w) := by
          rw [o_ixC hlc]
          rfl
        have xa := ser_ix (S := S) (P := P) (g := g1) (wt := w) ha
        have ca := ser_l (S := S) (K := dropL K p) (g := g1) (wt := w) aP
        have ni := encInt.notInC b (g1 a) ca
        have gl1 := sub_len (sg1.gn a ha) (ys := P) fun y hy => sg1.sub y (sg1.gm a ha y hy).1
        have gl2 := sub_len (sg1.gn b hb) (ys := P) fun y hy => sg1.sub y (sg1.gm b hb y hy).1
        by_cases m : b ∈ g1 a
        · rw [decide_eq_true m] at ni
          have ad0 : addG g1 [a, b] = g1 := by unfold addG; exact if_pos m
          rw [ad0] at fin
          generalize serS S P (dropL K p) g1 w = U at *
          simp_arith [ln, ia, ib, xa, ni]
          exact fin _
        · rw [decide_eq_false m] at ni
          have ad0 : addG g1 [a, b] = updG (updG g1 a (g1 a ++ [b])) b (g1 b ++ [a]) := by unfold addG; exact if_neg m
          rw [ad0] at fin
          have ap1 := app_c (y := .int b) ca (by simp; omega)
          rw [show dI (g1 a) ++ [PyData.int b] = dI (g1 a ++ [b]) by simp, ser_setl (by exact nd) aP] at ap1
          have tya := ty_list ca
          have pna : p ≠ a := fun e => (mem_dropL.mp ha).2 e.symm
          have pnb : p ≠ b := fun e => (mem_dropL.mp hb).2 e.symm
          have hlc2 : (serS S P (dropL K p) (updG g1 a (g1 a ++ [b])) w)[S.length + P.idxOf p]? = some (.lst (dI [a, b])) := by
            rw [ser_l pP]
            unfold updG
            rw [if_neg pna, gp1, hs]
          have ia2 : gIx (.c (S.length + P.idxOf p)) (.d (.int 0)) (serS S P (dropL K p) (updG g1 a (g1 a ++ [b])) w) = .ok (.d (.int a)) (serS S P (dropL K p) (updG g1 a (g1 a ++ [b])) w) := by
            rw [o_ixC hlc2]
            rfl
          have ib2 : gIx (.c (S.length + P.idxOf p)) (.d (.int 1)) (serS S P (dropL K p) (updG g1 a (g1 a ++ [b])) w) = .ok (.d (.int b)) (serS S P (dropL K p) (updG g1 a (g1 a ++ [b])) w) := by
            rw [o_ixC hlc2]
            rfl
          have xb := ser_ix (S := S) (P := P) (g := updG g1 a (g1 a ++ [b])) (wt := w) hb
          have cb := ser_l (S := S) (K := dropL K p) (g := updG g1 a (g1 a ++ [b])) (wt := w) bP
          have gb : updG g1 a (g1 a ++ [b]) b = g1 b := by unfold updG; rw [if_neg (Ne.symm hab)]
          rw [gb] at cb
          have ap2 := app_c (y := .int a) cb (by simp; omega)
          rw [show dI (g1 b) ++ [PyData.int a] = dI (g1 b ++ [a]) by simp, ser_setl (by exact nd) bP] at ap2
          have tyb := ty_list cb
          generalize serS S P (dropL K p) (updG g1 a (g1 a ++ [b])) w = U2 at *
          generalize serS S P (dropL K p) g1 w = U at *
          simp_arith [ln, ia, ib, xa, ni]
          refine wp_seqN fun K4 k4 => ?_
          rw [e_sEx, mt_eval (v := .c (S.length + P.idxOf a)) (S1 := U) (by simp_arith [ia, xa]) tya]
          simp_arith [ib, ap1]
          refine k4 _ _ ?_
          rw [e_sEx, mt_eval (v := .c (S.length + P.idxOf b)) (S1 := U2) (by simp_arith [ib2, xb]) tyb]
          simp_arith [ia2, ap2]
          exact fin _
  · intro f hf
    rw [hB]
    exact ser_fuel sg0 (Nat.le_refl _) (by omega) (by omega)
end
end Z
set_option Elab.async false
set_option linter.all false
set_option maxRecDepth 100000
set_option maxHeartbeats 1000000
/-! a web drawn by the pot of FamQ (_law_web): places rise, ties are apart -/
namespace Z
open PySem PySem.Spec PyProof.Rows L2 MV
local macro_rules | `(tactic| simp_arith [$ls,*]) => `(tactic| simp only [e_V, e_K, e_2, e_tst, e_bAnd, e_bOr, e_bNot, e_And, e_Or, e_Not, e_If, e_Un, e_Chain, e_aNil, e_aCons, e_Tup, e_Lst, datas_nil, datas_d, e_Call, e_sNil, e_sBk, e_sCt, e_sEx, e_sRt, e_sRtN, e_sIf, e_sSet, e_sCell, e_sAsg, e_sPar, e_sPar3, e_sMul, e_setAll, e_setAll0, e_aCell, e_sPut, e_sAug, e_Isi, e_oNo, e_oYes, e_Sl, go_name, go_tup, goL_nil, goL_cons, go_P, go_W, e_bYes, th_d, th_c, th_z, th_f, th_fd, data_lst, data_dic, bind_ok, wp_ok, if_true, if_false, ite_true, ite_false, decide_true, decide_false, Bool.not_true, Bool.not_false, Bool.false_eq_true, Bool.true_eq_false, List.getElem?_cons_zero, List.getElem?_cons_succ, List.set_cons_zero, List.set_cons_succ, List.map_cons, List.map_nil, List.replicate, List.cons_append, List.nil_append, Option.map_some, List.length_cons, List.length_nil, Nat.reduceAdd, Nat.reduceSub, Nat.reduceLeDiff, Nat.zero_le, Nat.zero_add, o_sub, o_add, o_lt, o_le, o_gt, o_ge, o_eqI, o_neI, o_eqS, o_neS, g_lenT, g_lenL, g_lenZ, g_tupT, g_tupL, g_listT, g_listL, g_intB, g_intI, g_min2, g_max2, e_Dic0, e_dNil, e_dCons, BEq.rfl, $ls,*])
local macro_rules | `(tactic| simp_all_arith [$ls,*]) => `(tactic| (refine wp_seq fun K kn kr => ?_; simp_arith [$ls,*]; (first | refine kn _ _ ?_ | refine kr _ _ ?_); clear kn kr K))
section
variable {S T : Sto} {n c : Nat} {many : Nat} {P : List Int}
theorem bl_at {xs : List Bool} {r : Int} (h0 : 0 ≤ r) (h1 : r < xs.length) : ∃ w : Bool, atI (xs.map PyData.bool) r = some (.bool w) := by
  have h : r.toNat < xs.length := by omega
  exact ⟨xs[r.toNat], at_nat h0 (by rw [List.getElem?_map, List.getElem?_eq_getElem h]; rfl)⟩
theorem q_neB {a b : Bool} {S : Sto} : ∃ w : Bool, gNe (.d (.bool a)) (.d (.bool b)) S = .ok (.d (.bool w)) S := ⟨_, o_ne rfl rfl rfl rfl⟩
theorem q_eqP {a b x y : Int} {S : Sto} : ∃ w : Bool, gEq (.d (.tuple [.int a, .int b])) (.d (.tuple [.int x, .int y])) S = .ok (.d (.bool w)) S := ⟨_, encP.eq (a, b) (x, y)⟩
theorem rise_lt (h : Rise P) {i j : Nat} {a b : Int} (hi : P[i]? = some a) (hj : P[j]? = some b) (h1 : i < j) : a < b := by
  obtain ⟨hi1, rfl⟩ := List.getElem?_eq_some_iff.mp hi
  obtain ⟨hj1, rfl⟩ := List.getElem?_eq_some_iff.mp hj
  exact List.pairwise_iff_getElem.mp h i j hi1 hj1 h1
theorem rise_inj (h : Rise P) {i j : Nat} {a : Int} (hi : P[i]? = some a) (hj : P[j]? = some a) : i = j := by
  rcases Nat.lt_trichotomy i j with q | q | q
  · have := rise_lt h hi hj q
    omega
  · exact q
  · have := rise_lt h hj hi q
    omega
/-- ties made by places that stand before (i, j) -/
structure Made (P : List Int) (i j : Nat) (ts : List (Int × Int)) : Prop where
  nd : ts.Nodup
  of : ∀ t ∈ ts, ∃ a b : Nat, P[a]? = some t.1 ∧ P[b]? = some t.2 ∧ a < b ∧ (b < j ∨ b = j ∧ a < i)
theorem Made.up {ts : List (Int × Int)} {i j i' j' : Nat} (h : Made P i j ts) (q : j < j' ∨ j = j' ∧ i ≤ i') : Made P i' j' ts :=
  ⟨h.nd, fun t ht => by
    obtain ⟨a, b, h1, h2, h3, h4⟩ := h.of t ht
    exact ⟨a, b, h1, h2, h3, by omega⟩⟩
theorem Made.add {ts : List (Int × Int)} {i j : Nat} {x y : Int} (r : Rise P) (h : Made P i j ts) (hi : P[i]? = some x) (hj : P[j]? = some y) (hl : i < j) : Made P (i + 1) j (ts ++ [(x, y)]) := by
  refine ⟨?_, fun t ht => ?_⟩
  · refine List.nodup_append.mpr ⟨h.nd, by simp, fun t ht u hu e => ?_⟩
    rw [List.mem_singleton.mp hu] at e
    subst e
    obtain ⟨a, b, h1, h2, h3, h4⟩ := h.of _ ht
    have := rise_inj r h1 hi
    have := rise_inj r h2 hj
    omega
  · rcases List.mem_append.mp ht with q | q
    · obtain ⟨a, b, h1, h2, h3, h4⟩ := h.of t q
      exact ⟨a, b, h1, h2, h3, by omega⟩
    · rw [List.mem_singleton.mp q]
      exact ⟨i, j, hi, hj, hl, by omega⟩
theorem webQ (h : Pq S n c T) (hc : c ≤ 700000) (m1 : many ≤ 24) : ∃ T' W, m_l_web [.c n, .d (.int (many : Int))] T = .ok (.d (pW W)) T' ∧ Pq T n (c + 2000) T' ∧ T'.length = T.length ∧ Ws W ∧ W.1.length = many := by
  have hz := hzQ
  have hn : n < T.length := by have := h.le; have := h.nS; omega
  suffices w : wp (m_l_web [.c n, .d (.int (many : Int))] T) fun v T' => ∃ W, v = .d (pW W) ∧ Pq T n (c + 2000) T' ∧ T'.length = T.length ∧ Ws W ∧ W.1.length = many by
    obtain ⟨v, T1, e1, W, rfl, h2⟩ := w.ex
    exact ⟨T1, W, e1, h2⟩
  refine wp_fn rfl ?_
  simp only [List.map_cons, List.map_nil, List.replicate, List.cons_append, List.nil_append, Nat.reduceSub]
  refine wp_seqN fun K kn => ?_
  obtain ⟨T1, mk, e1, hP1, hl1, mk0, mk1⟩ := takeQ h (by omega) (k := 6) (by decide) (by decide)
  obtain ⟨T2, at0, e2, hP2, hl2, a0, a1⟩ := takeQ hP1 (by omega) (k := 4) (by decide) (by decide)
  have hP2 := h.self.trans (hP1.trans hP2)
  have hl2 : T2.length = T.length := by omega
  simp_arith [e1, e2, List.length_append, and_self]
  refine kn _ _ ?_
  clear kn K e1 e2
  have hV1 : (T2 ++ [Cell.lst []] ++ [Cell.lst []])[T.length]? = some (.lst (dI [])) := by rw [← hl2]; simp
  have hV2 : (T2 ++ [Cell.lst []] ++ [Cell.lst []])[T.length + 1]? = some (.lst (dP [])) := by rw [← hl2, List.getElem?_append_right (by simp)]; simp
  have hP3 : Pq T n (c + 2) (T2 ++ [Cell.lst []] ++ [Cell.lst []]) := (hP2.app.app).up (by omega)
  have hl3 : (T2 ++ [Cell.lst []] ++ [Cell.lst []]).length = T.length + 2 := by simp [hl2]
  rw [hl2]
  generalize T2 ++ [Cell.lst []] ++ [Cell.lst []] = V at *
  -- the places
  refine wp_seqN fun K kn => ?_
  refine wp_forK (fun (pre : List Nat) ρ V => ∃ o2 at' P, ρ = [some (.c n), some (.d (.int (many : Int))), o2, none, some (.d (.int mk)), some (.d (.int at')), some (.c T.length), some (.c (T.length + 1)), none, none] ∧ V[T.length]? = some (.lst (dI P)) ∧ V[T.length + 1]? = some (.lst (dP [])) ∧ P.length = pre.length ∧ Rise P ∧ (∀ a ∈ P, a < at') ∧ Pq T n (c + 2 + 2 * pre.length) V ∧ V.length = T.length + 2) (List.range many) (fun (i : Nat) => .int (0 + (i : Int))) (s := ⟨iota 0 many, []⟩) (S1 := V) (by simp_arith [e_iBy, e_range1 (j := (many : Int)) (by omega) (by omega)]; rw [Int.toNat_natCast]) rfl (fun _ _ _ _ => gok_nil) ⟨none, at0, [], rfl, hV1, hV2, rfl, List.Pairwise.nil, (fun a ha => nomatch ha), hP3, hl3⟩ ?_ ?_
  · clear hV1 hV2 hP3 hl3
    rintro pre x post ρ V ex ⟨o2, at', P, rfl, hV1, hV2, hPl, hR, hB, hP, hVl⟩
    obtain ⟨hx1, hx2⟩ := range_at ex
    have pl : pre.length < 24 := by omega
    refine ⟨_, rfl, fun K k1 k2 => ?_⟩
    simp only [go_name, List.set_cons_succ, List.set_cons_zero]
    have hV3 : (V.set T.length (.lst (dI P ++ [.int at'])))[T.length]? = some (.lst (dI (P ++ [at']))) := by
      rw [st_upd hV1, dI, dI, List.map_append]
      rfl
    refine wp_seqN fun K2 kn2 => ?_
    simp_arith [e_Mt, ty_list hV1, app_c hV1 (y := .int at') (by simp; omega)]
    refine kn2 _ _ ?_
    clear kn2 K2
    have hV4 : (V.set T.length (.lst (dI P ++ [.int at'])))[T.length + 1]? = some (.lst (dP [])) := by rw [List.getElem?_set_ne (by omega), hV2]
    have hP4 := hP.set (j := T.length) (x := .lst (dI P ++ [.int at'])) (Nat.le_refl _)
    have hl4 : (V.set T.length (.lst (dI P ++ [.int at']))).length = T.length + 2 := by simp [hVl]
    generalize V.set T.length (.lst (dI P ++ [.int at'])) = U at *
    obtain ⟨U1, r1, e1, hQ1, hm1, r10, r11⟩ := takeQ hP4 (by omega) (k := 4) (by decide) (by decide)
    obtain ⟨U2, r2, e2, hQ2, hm2, r20, r21⟩ := takeQ hQ1 (by omega) (k := 3) (by decide) (by decide)
    obtain ⟨w, hw, ew⟩ := at_ex (xs := [0, r1, 0]) r20 (by simpa using r21)
    have ew : gIx (.d (.list [.int 0, .int r1, .int 0])) (.d (.int r2)) U2 = .ok (.d (.int w)) U2 := by
      rw [o_ixL]
      simp only [dI, List.map_cons, List.map_nil] at ew
      rw [ew]
    have w0 : 0 ≤ w := by
      simp at hw
      omega
    simp_arith [e1, e2, ew]
    have nn : ∀ j, T.length ≤ j → j ≠ n := fun j hj => by omega
    have q1 := hQ2.at_ (hQ1.at_ hV3 (nn _ (by omega))) (nn _ (by omega))
    have q2 := hQ2.at_ (hQ1.at_ hV4 (nn _ (by omega))) (nn _ (by omega))
    refine k1 _ _ ⟨_, _, P ++ [at'], rfl, q1, q2, by simp [hPl], ?_, ?_, ((hP4.trans hQ1).trans hQ2).up (by simp; omega), by omega⟩
    · refine List.pairwise_append.mpr ⟨hR, List.pairwise_singleton _ _, fun a ha b hb => ?_⟩
      rw [List.mem_singleton.mp hb]
      exact hB a ha
    · intro a ha
      rcases List.mem_append.mp ha with q | q
      · have := hB a q
        omega
      · rw [List.mem_singleton.mp q]
        omega
  rintro ρ V1 ⟨o2, at', P, rfl, hV1', hV2', hPl, hR, hB, hP, hVl⟩
  refine kn _ _ ?_
  clear kn K hV1 hV2 hP3 hl3
  have hPl : P.length = many := by simpa using hPl
  -- the ties
  refine wp_seqN fun K kn => ?_
  refine wp_forK (fun (pre : List Nat) ρ V => ∃ o3 o8 o9 ts, ρ = [some (.c n), some (.d (.int (many : Int))), o2, o3, some (.d (.int mk)), some (.d (.int at')), some (.c T.length), some (.c (T.length + 1)), o8, o9] ∧ V[T.length]? = some (.lst (dI P)) ∧ V[T.length + 1]? = some (.lst (dP ts)) ∧ Made P 0 pre.length ts ∧ ts.length ≤ 24 * pre.length ∧ Pq T n (c + 100 + 24 * pre.length) V ∧ V.length = T.length + 2) (List.range many) (fun (i : Nat) => .int (0 + (i : Int))) (s := ⟨iota 0 many, []⟩) (S1 := V1) (by simp_arith [e_iBy, e_range1 (j := (many : Int)) (by omega) (by omega)]; rw [Int.toNat_natCast]) rfl (fun _ _ _ _ => gok_nil) ⟨none, none, none, [], rfl, hV1', hV2', ⟨List.nodup_nil, fun t ht => nomatch ht⟩, by simp, hP.up (by simp; omega), hVl⟩ ?_ ?_
  · clear hP hVl hV1' hV2'
    rintro pre x post ρ V ex ⟨o3, o8, o9, ts, rfl, hV1, hV2, hM, hL, hP, hVl⟩
    obtain ⟨hx1, hx2⟩ := range_at ex
    have pl : pre.length < 24 := by omega
    have xe : x = pre.length := by omega
    refine ⟨_, rfl, fun K k1 k2 => ?_⟩
    simp only [go_name, List.set_cons_succ, List.set_cons_zero]
    refine wp_forK (fun (pre2 : List Nat) ρ V => ∃ o8 o9 ts, ρ = [some (.c n), some (.d (.int (many : Int))), o2, some (.d (.int (0 + (x : Int)))), some (.d (.int mk)), some (.d (.int at')), some (.c T.length), some (.c (T.length + 1)), o8, o9] ∧ V[T.length]? = some (.lst (dI P)) ∧ V[T.length + 1]? = some (.lst (dP ts)) ∧ Made P pre2.length x ts ∧ ts.length ≤ 24 * pre.length + pre2.length ∧ Pq T n (c + 100 + 24 * pre.length + pre2.length) V ∧ V.length = T.length + 2) (List.range x) (fun (i : Nat) => .int (0 + (i : Int))) (s := ⟨iota 0 x, []⟩) (S1 := V) (by simp_arith [e_iBy, e_range1 (j := 0 + (x : Int)) (by omega) (by omega)]; rw [Int.zero_add, Int.toNat_natCast]) rfl (fun _ _ _ _ => gok_nil) ⟨o8, o9, ts, rfl, hV1, hV2, by rw [xe]; exact hM, by simpa using hL, hP, hVl⟩ ?_ ?_
    · clear hP hVl hV1 hV2 hM hL
      clear ts o8 o9 o3 V
      rintro pre2 i post2 ρ V ex2 ⟨o8, o9, ts, rfl, hV1, hV2, hM, hL, hP, hVl⟩
      obtain ⟨hi1, hi2⟩ := range_at ex2
      have ie : i = pre2.length := by omega
      refine ⟨_, rfl, fun K k1 k2 => ?_⟩
      simp only [go_name, List.set_cons_succ, List.set_cons_zero]
      have nn : ∀ j, T.length ≤ j → j ≠ n := fun j hj => by omega
      have eO : ∃ w : Bool, evOr (ev2 gEq (evV 3) (ev2 gAdd (evV 8) (evK (.int 1)))) (ev2 gEq (evTup (aCons (evV 8) (aCons (evV 3) (aNil)))) (evTup (aCons (evK (.int 0)) (aCons (ev2 gSub (evV 1) (evK (.int 1))) (aNil))))) [some (.c n), some (.d (.int (many : Int))), o2, some (.d (.int (0 + (x : Int)))), some (.d (.int mk)), some (.d (.int at')), some (.c T.length), some (.c (T.length + 1)), some (.d (.int (0 + (i : Int)))), o9] V = .ok (.d (.bool w)) V := by
        rw [e_Or, e_tst]
        obtain ⟨w, ew⟩ := q_eqP (a := 0 + (i : Int)) (b := 0 + (x : Int)) (x := 0) (y := (many : Int) - 1) (S := V)
        rcases Bool.eq_false_or_eq_true ((0 + (x : Int)) == 0 + (i : Int) + 1) with c1 | c1
        · simp_arith [c1, ew]
          exact ⟨_, rfl⟩
        · simp_arith [c1, ew]
          exact ⟨_, rfl⟩
      obtain ⟨b1, eO⟩ := eO
      refine wp_seqN fun K2 kn2 => ?_
      revert eO
      generalize evOr _ _ = sx
      intro eO
      obtain ⟨w, ew⟩ := bl_at (xs := [((0 + (x : Int)) == 0 + (i : Int) + 1), b1, ((0 + (i : Int)) == 0), false, true, decide ((0 + (x : Int)) < 0 + (i : Int) + 3)]) mk0 (by simpa using mk1)
      have ew : gIx (.d (.list [.bool (((0 + (x : Int)) == 0 + (i : Int) + 1)), .bool b1, .bool (((0 + (i : Int)) == 0)), .bool false, .bool true, .bool (decide ((0 + (x : Int)) < 0 + (i : Int) + 3))])) (.d (.int mk)) V = .ok (.d (.bool w)) V := by
        rw [o_ixL]
        simp only [List.map_cons, List.map_nil] at ew
        rw [ew]
      simp_arith [eO, ew]
      refine kn2 _ _ ?_
      clear kn2 K2
      obtain ⟨m, hm, em⟩ := at_ex (xs := [9, 9, 9, 3, 5, 6]) mk0 (by simpa using mk1)
      have em : ∀ U : Sto, gIx (.d (.list [.int 9, .int 9, .int 9, .int 3, .int 5, .int 6])) (.d (.int mk)) U = .ok (.d (.int m)) U := by
        intro U
        rw [o_ixL]
        simp only [dI, List.map_cons, List.map_nil] at em
        rw [em]
      have m0 : 0 < m ∧ m < 10 := by
        simp at hm
        omega
      obtain ⟨U, r, e1, hQ, hm1, r0, r1⟩ := takeQ hP (by omega) (k := m) (by omega) (by omega)
      obtain ⟨w2, ne⟩ := q_neB (a := w) (b := (r == 0)) (S := U)
      have q1 := hQ.at_ hV1 (nn _ (by omega))
      have q2 := hQ.at_ hV2 (nn _ (by omega))
      have hP5 := hP.trans hQ
      have xl : x < P.length := by omega
      have il : i < P.length := by omega
      have xi : P[x]? = some P[x] := List.getElem?_eq_getElem xl
      have ii : P[i]? = some P[i] := List.getElem?_eq_getElem il
      have j1 : gIx (.c T.length) (.d (.int (0 + (i : Int)))) U = .ok (.d (.int P[i])) U := by
        rw [o_ixC q1, at_nat (x := PyData.int P[i]) (by omega) (by rw [Int.zero_add, Int.toNat_natCast, dI, List.getElem?_map, ii]; rfl)]
      have j2 : gIx (.c T.length) (.d (.int (0 + (x : Int)))) U = .ok (.d (.int P[x])) U := by
        rw [o_ixC q1, at_nat (x := PyData.int P[x]) (by omega) (by rw [Int.zero_add, Int.toNat_natCast, dI, List.getElem?_map, xi]; rfl)]
      cases w2 with
      | true =>
        simp_arith [em, e1, ne, e_Mt, ty_list q2, j1, j2, app_c q2 (y := .tuple [.int P[i], .int P[x]]) (by simp; omega)]
        refine k1 _ _ ⟨_, _, ts ++ [(P[i], P[x])], rfl, by rw [List.getElem?_set_ne (by omega), q1], by rw [st_upd q2]; simp [pP], ?_, by simp; omega, (hP5.set (by omega)).up (by simp; omega), by simp; omega⟩
        rw [List.length_append, List.length_singleton]
        exact Made.add hR hM (by rw [← ie]; exact ii) xi (by omega)
      | false =>
        simp_arith [em, e1, ne]
        exact k1 _ _ ⟨_, _, ts, rfl, q1, q2, hM.up (by simp), by simp; omega, hP5.up (by simp; omega), by omega⟩
    · rintro ρ V ⟨o8, o9, ts, rfl, hV1, hV2, hM, hL, hP, hVl⟩
      have lx : (List.range x).length = x := by simp
      rw [lx] at hM hL hP
      exact k1 _ _ ⟨_, _, _, ts, rfl, hV1, hV2, hM.up (by simp; omega), by simp; omega, hP.up (by simp; omega), hVl⟩
  · clear hP hVl hV1' hV2'
    rintro ρ V ⟨o3, o8, o9, ts, rfl, hV1, hV2, hM, hL, hP, hVl⟩
    refine kn _ _ ?_
    clear kn K
    have lm : (List.range many).length = many := by simp
    rw [lm] at hM hL hP
    have so := sorted_pair (v := .c (T.length + 1)) (S := V) (ps := ts) (t := false) (g := [(T.length + 1, dP ts)]) (by rw [seq_c, hV2]) (by omega)
    have sl : gSl (.d (.list (dP (psort ts)))) none (some 60) V = .ok (.f (.lst (dP ((psort ts).take 60)))) V := by
      rw [o_slL, cut_to (by decide)]
      show Res.ok (Val.f (.lst (List.take (60 : Int).toNat (List.map pP (psort ts))))) V = _
      rw [← List.map_take]
      rfl
    have tp := g_tupC (n := T.length) hV1
    simp_arith [so, sl, tp]
    refine wp_out_d ?_
    have rp := psort_rise hM.nd
    have mm : ∀ t ∈ (psort ts).take 60, t ∈ ts := fun t ht => mem_psort.mp (List.mem_of_mem_take ht)
    have lt : ∀ t ∈ (psort ts).take 60, t.1 < t.2 ∧ t.1 ∈ P ∧ t.2 ∈ P := fun t ht => by
      obtain ⟨a, b, h1, h2, h3, h4⟩ := hM.of t (mm t ht)
      exact ⟨rise_lt hR h1 h2 h3, List.mem_of_getElem? h1, List.mem_of_getElem? h2⟩
    refine ⟨(P, (psort ts).take 60), rfl, hP.cut.up (by omega), hP.cut_len, ⟨⟨⟨hR.nodup, fun t ht => ⟨(lt t ht).2.1, (lt t ht).2.2, by have := (lt t ht).1; omega⟩, by show P.length ≤ 100; omega, ?_⟩, hR, by show P.length ≤ 30; omega⟩, ?_, fun t ht => (lt t ht).1⟩, hPl⟩
    · show ((psort ts).take 60).length ≤ 100
      rw [List.length_take]
      omega
    · exact RiseP.nodup (rp.sublist (List.take_sublist _ _))
end
end Z
set_option Elab.async false
set_option linter.all false
set_option maxRecDepth 100000
set_option maxHeartbeats 1000000
/-! is_kind, kinds -/
namespace Z
open PySem PySem.Spec PyProof.Rows L2 MV
local macro_rules | `(tactic| simp_arith [$ls,*]) => `(tactic| simp only [e_V, e_K, e_2, e_tst, e_bAnd, e_bOr, e_bNot, e_And, e_Or, e_Not, e_If, e_Un, e_Chain, e_aNil, e_aCons, e_Tup, e_Lst, datas_nil, datas_d, e_Call, e_sNil, e_sBk, e_sCt, e_sEx, e_sRt, e_sRtN, e_sIf, e_sSet, e_sCell, e_sAsg, e_sPar, e_sPar3, e_sMul, e_setAll, e_setAll0, e_aCell, e_sPut, e_sAug, e_Isi, e_oNo, e_oYes, e_Sl, go_name, go_tup, goL_nil, goL_cons, go_P, go_W, e_bYes, th_d, th_c, th_z, th_f, th_fd, data_lst, data_dic, bind_ok, wp_ok, if_true, if_false, ite_true, ite_false, decide_true, decide_false, Bool.not_true, Bool.not_false, Bool.false_eq_true, Bool.true_eq_false, List.getElem?_cons_zero, List.getElem?_cons_succ, List.set_cons_zero, List.set_cons_succ, List.map_cons, List.map_nil, List.replicate, List.cons_append, List.nil_append, Option.map_some, List.length_cons, List.length_nil, Nat.reduceAdd, Nat.reduceSub, Nat.reduceLeDiff, Nat.zero_le, Nat.zero_add, o_sub, o_add, o_lt, o_le, o_gt, o_ge, o_eqI, o_neI, o_eqS, o_neS, g_lenT, g_lenL, g_lenZ, g_tupT, g_tupL, g_listT, g_listL, g_intB, g_intI, g_min2, g_max2, e_Dic0, e_dNil, e_dCons, BEq.rfl, $ls,*])
local macro_rules | `(tactic| simp_all_arith [$ls,*]) => `(tactic| (refine wp_seq fun K kn kr => ?_; simp_arith [$ls,*]; (first | refine kn _ _ ?_ | refine kr _ _ ?_); clear kn kr K))
inductive Kd where
  | bare | pairs | hub | stars | rows | combs | forest | rings | series
instance : DecidableEq Kd := fun a b => by
  cases a <;> cases b <;> first | exact isTrue rfl | exact isFalse fun h => nomatch h
def kdS : Kd → Str
  | .bare => Str.ofString "bare"
  | .pairs => Str.ofString "pairs"
  | .hub => Str.ofString "hub"
  | .stars => Str.ofString "stars"
  | .rows => Str.ofString "rows"
  | .combs => Str.ofString "combs"
  | .forest => Str.ofString "forest"
  | .rings => Str.ofString "rings"
  | .series => Str.ofString "series"
def kdAll : List Kd := [.bare, .pairs, .hub, .stars, .rows, .combs, .forest, .rings, .series]
theorem kd_all (k : Kd) : k ∈ kdAll := by cases k <;> simp [kdAll]
theorem kdS_ne {i j : Kd} (h : i ≠ j) : ¬ kdS i = kdS j := by
  revert h
  cases i <;> cases j <;> first | exact fun h => absurd rfl h | exact fun _ => by decide +kernel
noncomputable def kindB (W : Web) : Kd → Bool
  | .bare => decide (W.2 = [])
  | .pairs => decide (mostT W < 2)
  | .hub => hubB W
  | .stars => starsB W
  | .rows => forestB W && decide (mostT W < 3)
  | .combs => combB W
  | .forest => forestB W
  | .rings => ringsB W
  | .series => serB W
section
variable {W : Web} {S : Sto} {Q : Fw → Sto → Prop} {f g : Ss} {e : Sx} {y : PyData}
theorem kd_no (x : Kd) {k : Kd} (h : x ≠ k) (q : wp (g [some (.d (.str (kdS k))), some (.d (pW W))] S) Q) : wp (sSeq (sIf (tst (ev2 gEq (evV 0) (evK (.str (kdS x))))) f sNil) g [some (.d (.str (kdS k))), some (.d (pW W))] S) Q := by
  refine wp_seqN fun K kn => ?_
  simp_arith [decide_eq_false (kdS_ne (Ne.symm h))]
  exact kn _ _ q
theorem kd_yes (k : Kd) (he : e [some (.d (.str (kdS k))), some (.d (pW W))] S = .ok (.d y) S) (q : Q (.rt (.d y)) S) : wp (sSeq (sIf (tst (ev2 gEq (evV 0) (evK (.str (kdS k))))) (sRt e) sNil) g [some (.d (.str (kdS k))), some (.d (pW W))] S) Q := by
  refine wp_seq fun K kn kr => ?_
  simp_arith [he]
  exact kr _ _ q
theorem kind_eq (h : Ws W) (k : Kd) : m_is_kind [.d (.str (kdS k)), .d (pW W)] S = .ok (.d (.bool (kindB W k))) S := by
  have tl := h.k.n.tl
  have e0 : gEq (.d (pTs W.2)) (.d (.tuple [])) S = .ok (.d (.bool (decide (W.2 = [])))) S := encTs.eq W.2 []
  have e1 := most_eq h.k (S := S)
  have e2 := hub_eq (W := W) (S := S) tl
  have e3 := stars_eq h.k (S := S)
  have e4 := forest_eq h.k (S := S)
  have e5 := comb_eq h.k (S := S)
  have e6 := rings_eq h.k (S := S)
  have e7 := series_eq h (S := S)
  refine eq_of_wp (wp_fn rfl ?_)
  simp only [List.map_cons, List.map_nil, List.replicate, List.cons_append, List.nil_append, Nat.reduceSub]
  cases k with
  | bare => exact kd_yes .bare (by simp_arith [g1T, e0]; rfl) (wp_out_d ⟨rfl, tk_self⟩)
  | pairs =>
    refine kd_no .bare (fun h => nomatch h) ?_
    exact kd_yes .pairs (by simp_arith [e1]; rfl) (wp_out_d ⟨rfl, tk_self⟩)
  | hub =>
    refine kd_no .bare (fun h => nomatch h) (kd_no .pairs (fun h => nomatch h) ?_)
    exact kd_yes .hub (by simp_arith [e2]; rfl) (wp_out_d ⟨rfl, tk_self⟩)
  | stars =>
    refine kd_no .bare (fun h => nomatch h) (kd_no .pairs (fun h => nomatch h) (kd_no .hub (fun h => nomatch h) ?_))
    exact kd_yes .stars (by simp_arith [e3]; rfl) (wp_out_d ⟨rfl, tk_self⟩)
  | rows =>
    refine kd_no .bare (fun h => nomatch h) (kd_no .pairs (fun h => nomatch h) (kd_no .hub (fun h => nomatch h) (kd_no .stars (fun h => nomatch h) ?_)))
    refine kd_yes .rows (y := .bool (forestB W && decide (mostT W < 3))) ?_ (wp_out_d ⟨rfl, tk_self⟩)
    rw [e_And, e_tst]
    simp_arith [e4]
    cases forestB W
    · rfl
    · simp_arith [e1]
      rfl
  | combs =>
    refine kd_no .bare (fun h => nomatch h) (kd_no .pairs (fun h => nomatch h) (kd_no .hub (fun h => nomatch h) (kd_no .stars (fun h => nomatch h) (kd_no .rows (fun h => nomatch h) ?_))))
    exact kd_yes .combs (by simp_arith [e5]; rfl) (wp_out_d ⟨rfl, tk_self⟩)
  | forest =>
    refine kd_no .bare (fun h => nomatch h) (kd_no .pairs (fun h => nomatch h) (kd_no .hub (fun h => nomatch h) (kd_no .stars (fun h => nomatch h) (kd_no .rows (fun h => nomatch h) (kd_no .combs (fun h => nomatch h) ?_)))))
    exact kd_yes .forest (by simp_arith [e4]; rfl) (wp_out_d ⟨rfl, tk_self⟩)
  | rings =>
    refine kd_no .bare (fun h => nomatch h) (kd_no .pairs (fun h => nomatch h) (kd_no .hub (fun h => nomatch h) (kd_no .stars (fun h => nomatch h) (kd_no .rows (fun h => nomatch h) (kd_no .combs (fun h => nomatch h) (kd_no .forest (fun h => nomatch h) ?_))))))
    exact kd_yes .rings (by simp_arith [e6]; rfl) (wp_out_d ⟨rfl, tk_self⟩)
  | series =>
    refine kd_no .bare (fun h => nomatch h) (kd_no .pairs (fun h => nomatch h) (kd_no .hub (fun h => nomatch h) (kd_no .stars (fun h => nomatch h) (kd_no .rows (fun h => nomatch h) (kd_no .combs (fun h => nomatch h) (kd_no .forest (fun h => nomatch h) (kd_no .rings (fun h => nomatch h) ?_)))))))
    simp_arith [e7]
    exact wp_out_d ⟨rfl, tk_self⟩
noncomputable def kindsL (W : Web) : List Kd := kdAll.filter (kindB W)
theorem kinds_eq (h : Ws W) : m_kinds [.d (pW W)] S = .ok (.d (.tuple ((kindsL W).map fun k => .str (kdS k)))) S := by
  have hz := hzK
  refine eq_of_wp (wp_fn rfl ?_)
  simp only [List.map_cons, List.map_nil, List.replicate, List.cons_append, List.nil_append, Nat.reduceSub]
  have cp := comp_pure (src := iSeq (evK (.tuple (kdAll.map fun k => .str (kdS k))))) (bd := bName 1) (t := tst (evCall m_is_kind (aCons (evV 1) (aCons (evV 0) (aNil))))) (e := evV 1) (own := [1]) (ρ := [some (.d (pW W)), none]) (S := S) (s := ⟨kdAll.map fun k => .str (kdS k), []⟩) kdAll (fun k => .str (kdS k)) (kindB W) (fun k => .str (kdS k)) rfl rfl gok_nil (by simp [kdAll]; omega) (fun k hk => ⟨_, by simp [wipeE]; rfl, by
    have e := kind_eq h k (S := S)
    simp_arith [e], fun _ => ⟨_, by simp_arith []; rfl, rfl⟩⟩)
  show wp (sRt (evCall (g1 fTuple) (aCons (evComp (iSeq (evK (.tuple (kdAll.map fun k => .str (kdS k))))) (bName 1) (tst (evCall m_is_kind (aCons (evV 1) (aCons (evV 0) (aNil))))) (evV 1) [1]) aNil)) _ S) _
  rw [e_sRt, e_Call, e_aCons, cp]
  simp_arith []
  exact wp_out_d ⟨rfl, tk_self⟩
end
end Z
set_option Elab.async false
set_option linter.all false
set_option maxRecDepth 100000
set_option maxHeartbeats 1000000
/-! words as data: kinds, and what is no kind -/
namespace Z
open PySem PySem.Spec PyProof.Rows L2 MV
/-- a kind, '', 'tree' -/
inductive Wd where
  | inl (k : Kd)
  | inr (b : Bool)
def wdS : Wd → Str
  | .inl k => kdS k
  | .inr false => Str.ofString ""
  | .inr true => Str.ofString "tree"
theorem kd_e (k : Kd) : ¬ kdS k = Str.ofString "" := by cases k <;> decide +kernel
theorem kd_t (k : Kd) : ¬ kdS k = Str.ofString "tree" := by cases k <;> decide +kernel
theorem et_ne : ¬ Str.ofString "" = Str.ofString "tree" := by decide +kernel
theorem wd_inj : ∀ a b : Wd, wdS a = wdS b → a = b
  | .inl i, .inl j, h => by
    by_cases e : i = j
    · rw [e]
    · exact absurd h (kdS_ne e)
  | .inl i, .inr false, h => absurd h (kd_e i)
  | .inl i, .inr true, h => absurd h (kd_t i)
  | .inr false, .inl j, h => absurd h.symm (kd_e j)
  | .inr true, .inl j, h => absurd h.symm (kd_t j)
  | .inr false, .inr false, _ => rfl
  | .inr true, .inr true, _ => rfl
  | .inr false, .inr true, h => absurd h et_ne
  | .inr true, .inr false, h => absurd h.symm et_ne
instance wdEq : DecidableEq Wd := fun a b => decidable_of_iff (wdS a = wdS b) ⟨wd_inj a b, fun e => by rw [e]⟩
theorem wd_ok : ∀ a : Wd, PyData.strOk (wdS a) = true
  | .inl k => by cases k <;> decide +kernel
  | .inr false => by decide +kernel
  | .inr true => by decide +kernel
def wdD (w : Wd) : PyData := .str (wdS w)
theorem encWd : Enc wdD 0 := ⟨fun a b => by
    unfold wdD
    rw [PyData.eqv, beq_iff_eq]
    exact ⟨wd_inj a b, fun e => by rw [e]⟩, fun a => by
    unfold wdD
    rw [PyData.canLay0]
    exact wd_ok a, fun a => by
    unfold wdD
    rw [PyData.depth]
    exact Nat.le_refl _⟩
theorem kinds_wd {W : Web} (h : Ws W) {S : Sto} : m_kinds [.d (pW W)] S = .ok (.d (.tuple (((kindsL W).map Wd.inl).map wdD))) S := by
  rw [kinds_eq h, List.map_map]
  rfl
instance wdMem (l : List Wd) (a : Wd) : Decidable (a ∈ l) := decidable_of_iff (l.any (fun x => decide (x = a)) = true) (by simp)
theorem mem_kinds {W : Web} {k : Kd} : (Wd.inl k : Wd) ∈ (kindsL W).map Wd.inl ↔ kindB W k = true := by
  constructor
  · intro h
    obtain ⟨j, hj, e⟩ := List.mem_map.mp h
    cases e
    exact (List.mem_filter.mp hj).2
  · intro h
    exact List.mem_map_of_mem (List.mem_filter.mpr ⟨kd_all k, h⟩)
theorem mem_kindsR {W : Web} {b : Bool} : ¬ (Wd.inr b : Wd) ∈ (kindsL W).map Wd.inl := by
  intro h
  obtain ⟨j, hj, e⟩ := List.mem_map.mp h
  cases e
end Z
set_option Elab.async false
set_option linter.all false
set_option maxRecDepth 100000
set_option maxHeartbeats 1000000
/-! shows_barred: what is counted, kinds, odd things -/
namespace Z
open PySem PySem.Spec PyProof.Rows L2 MV
local macro_rules | `(tactic| simp_arith [$ls,*]) => `(tactic| simp only [e_V, e_K, e_2, e_tst, e_bAnd, e_bOr, e_bNot, e_And, e_Or, e_Not, e_If, e_Un, e_Chain, e_aNil, e_aCons, e_Tup, e_Lst, datas_nil, datas_d, e_Call, e_sNil, e_sBk, e_sCt, e_sEx, e_sRt, e_sRtN, e_sIf, e_sSet, e_sCell, e_sAsg, e_sPar, e_sPar3, e_sMul, e_setAll, e_setAll0, e_aCell, e_sPut, e_sAug, e_Isi, e_oNo, e_oYes, e_Sl, go_name, go_tup, goL_nil, goL_cons, go_P, go_W, e_bYes, th_d, th_c, th_z, th_f, th_fd, data_lst, data_dic, bind_ok, wp_ok, if_true, if_false, ite_true, ite_false, decide_true, decide_false, Bool.not_true, Bool.not_false, Bool.false_eq_true, Bool.true_eq_false, List.getElem?_cons_zero, List.getElem?_cons_succ, List.set_cons_zero, List.set_cons_succ, List.map_cons, List.map_nil, List.replicate, List.cons_append, List.nil_append, Option.map_some, List.length_cons, List.length_nil, Nat.reduceAdd, Nat.reduceSub, Nat.reduceLeDiff, Nat.zero_le, Nat.zero_add, o_sub, o_add, o_lt, o_le, o_gt, o_ge, o_eqI, o_neI, o_eqS, o_neS, g_lenT, g_lenL, g_lenZ, g_tupT, g_tupL, g_listT, g_listL, g_intB, g_intI, g_min2, g_max2, e_Dic0, e_dNil, e_dCons, BEq.rfl, $ls,*])
local macro_rules | `(tactic| simp_all_arith [$ls,*]) => `(tactic| (refine wp_seq fun K kn kr => ?_; simp_arith [$ls,*]; (first | refine kn _ _ ?_ | refine kr _ _ ?_); clear kn kr K))
section
variable {W V : Web} {S : Sto}
theorem isi_T {T : String} {ds : List PyData} : kind S (.d (.tuple ds)) = some "tuple" := rfl
theorem isi_L {T : String} {ds : List PyData} : kind S (.d (.list ds)) = some "list" := rfl
theorem isi_S {s : Str} : kind S (.d (.str s)) = some "str" := rfl
theorem is1 : isOf "tuple" "tuple" = true := by decide
theorem is2 : isOf "tuple" "list" = false := by decide
theorem is3 : isOf "tuple" "str" = false := by decide
theorem is4 : isOf "str" "str" = true := by decide
theorem is5 : isOf "str" "tuple" = false := by decide
def moreB (W V : Web) : Bool := decide ((W.1.length : Int) < V.1.length) || decide ((W.2.length : Int) < V.2.length)
theorem more_eq : m_has_more [.d (pW W), .d (pW V)] S = .ok (.d (.bool (moreB W V))) S := by
  have g0 : ∀ (W : Web) (U : Sto), gIx (.d (pW W)) (.d (.int 0)) U = .ok (.d (pT W.1)) U := fun W U => rfl
  have gg : ∀ (W : Web) (U : Sto), gIx (.d (pW W)) (.d (.int 1)) U = .ok (.d (pTs W.2)) U := fun W U => rfl
  have l0 : ∀ (W : Web) (U : Sto), g1 fLen [.d (pT W.1)] U = .ok (.d (.int (W.1.length : Int))) U := fun W U => by unfold pT; rw [g_lenT]; simp
  have l1 : ∀ (W : Web) (U : Sto), g1 fLen [.d (pTs W.2)] U = .ok (.d (.int (W.2.length : Int))) U := fun W U => by unfold pTs; rw [g_lenT]; simp
  refine eq_of_wp (wp_fn rfl ?_)
  simp only [List.map_cons, List.map_nil, List.replicate, List.cons_append, List.nil_append, Nat.reduceSub]
  unfold y_has_more moreB
  rw [e_sRt, e_Or, e_tst]
  by_cases c : (W.1.length : Int) < V.1.length
  · simp_arith [g0, l0, c, Bool.true_or]
    exact wp_out_d ⟨rfl, tk_self⟩
  · simp_arith [g0, gg, l0, l1, c, Bool.false_or]
    exact wp_out_d ⟨rfl, tk_self⟩
/-- neither of the branches that ask more -/
def Plain (s : Str) : Prop := (¬ s = Str.ofString "kind") ∧ (¬ s = Str.ofString "width") ∧ (¬ s = Str.ofString "spread") ∧ ¬ s = Str.ofString "book"
theorem by_plain {s : Str} {x : PyData} (h : Plain s) : m_bars_by [.d (pW W), .d (pW V), .d (.str s), .d x] S = .ok (.d (.bool false)) S := by
  obtain ⟨h1, h2, h3, h4⟩ := h
  refine eq_of_wp (wp_fn rfl ?_)
  simp only [List.map_cons, List.map_nil, List.replicate, List.cons_append, List.nil_append, Nat.reduceSub]
  refine wp_seqN fun K kn => ?_
  simp_arith [decide_eq_false h1]
  refine kn _ _ ?_
  clear kn K
  refine wp_seqN fun K kn => ?_
  simp_arith [decide_eq_false h2]
  refine kn _ _ ?_
  clear kn K
  refine wp_seqN fun K kn => ?_
  simp_arith [decide_eq_false h3]
  refine kn _ _ ?_
  clear kn K
  refine wp_seqN fun K kn => ?_
  simp_arith [decide_eq_false h4]
  refine kn _ _ ?_
  simp_arith []
  exact wp_out_d ⟨rfl, tk_self⟩
/-- what is given as a kind is no text -/
theorem by_odd {x : PyData} (h : ∃ t, kind S (.d x) = some t ∧ isOf "str" t = false) : m_bars_by [.d (pW W), .d (pW V), .d (.str (Str.ofString "kind")), .d x] S = .ok (.d (.bool false)) S := by
  obtain ⟨t, h1, h2⟩ := h
  refine eq_of_wp (wp_fn rfl ?_)
  simp only [List.map_cons, List.map_nil, List.replicate, List.cons_append, List.nil_append, Nat.reduceSub]
  refine wp_seq fun K kn kr => ?_
  simp_arith [h1, h2]
  exact kr _ _ (wp_out_d ⟨rfl, tk_self⟩)
theorem by_kind (hW : Ws W) (hV : Ws V) (w : Wd) : m_bars_by [.d (pW W), .d (pW V), .d (.str (Str.ofString "kind")), .d (wdD w)] S = .ok (.d (.bool (decide (w ∈ (kindsL W).map Wd.inl) && !decide (w ∈ (kindsL V).map Wd.inl)))) S := by
  have k1 := kinds_wd hW (S := S)
  have k2 := kinds_wd hV (S := S)
  have i1 := encWd.inT w ((kindsL W).map Wd.inl) (S := S)
  have i2 := encWd.notInT w ((kindsL V).map Wd.inl) (S := S)
  have ks : kind S (.d (wdD w)) = some "str" := rfl
  generalize decide (w ∈ (kindsL W).map Wd.inl) = A at i1 ⊢
  refine eq_of_wp (wp_fn rfl ?_)
  simp only [List.map_cons, List.map_nil, List.replicate, List.cons_append, List.nil_append, Nat.reduceSub]
  refine wp_seq fun K kn kr => ?_
  cases A with
  | true =>
    simp_arith [ks, is4, k1, k2, i1, i2]
    exact kr _ _ (wp_out_d ⟨by rw [Bool.true_and], tk_self⟩)
  | false =>
    simp_arith [ks, is4, k1, i1]
    exact kr _ _ (wp_out_d ⟨by rw [Bool.false_and], tk_self⟩)
/-! shows_barred -/
theorem z00 : (((0 : Nat) : Int) == 0) = true := by decide
theorem z01 : (((0 : Nat) : Int) == 1) = false := by decide
theorem z02 : (((0 : Nat) : Int) == 2) = false := by decide
theorem z03 : (((0 : Nat) : Int) == 3) = false := by decide
theorem z10 : (((1 : Nat) : Int) == 0) = false := by decide
theorem z11 : (((1 : Nat) : Int) == 1) = true := by decide
theorem z12 : (((1 : Nat) : Int) == 2) = false := by decide
theorem z13 : (((1 : Nat) : Int) == 3) = false := by decide
theorem z20 : (((2 : Nat) : Int) == 0) = false := by decide
theorem z21 : (((2 : Nat) : Int) == 1) = false := by decide
theorem z22 : (((2 : Nat) : Int) == 2) = true := by decide
theorem z23 : (((2 : Nat) : Int) == 3) = false := by decide
theorem z30 : (((3 : Nat) : Int) == 0) = false := by decide
theorem z31 : (((3 : Nat) : Int) == 1) = false := by decide
theorem z32 : (((3 : Nat) : Int) == 2) = false := by decide
theorem z33 : (((3 : Nat) : Int) == 3) = true := by decide
theorem sb_list {ds : List PyData} : m_shows_barred [.d (pW W), .d (pW V), .d (.list ds)] S = .ok (.d (.bool false)) S := by
  refine eq_of_wp (wp_fn rfl ?_)
  simp only [List.map_cons, List.map_nil, List.replicate, List.cons_append, List.nil_append, Nat.reduceSub]
  refine wp_seq fun K kn kr => ?_
  simp_arith [z00, z01, z02, z03, z10, z11, z12, z13, z20, z21, z22, z23, z30, z31, z32, z33, kind, is2]
  exact kr _ _ (wp_out_d ⟨rfl, tk_self⟩)
theorem sb_str {s : Str} : m_shows_barred [.d (pW W), .d (pW V), .d (.str s)] S = .ok (.d (.bool false)) S := by
  refine eq_of_wp (wp_fn rfl ?_)
  simp only [List.map_cons, List.map_nil, List.replicate, List.cons_append, List.nil_append, Nat.reduceSub]
  refine wp_seq fun K kn kr => ?_
  simp_arith [z00, z01, z02, z03, z10, z11, z12, z13, z20, z21, z22, z23, z30, z31, z32, z33, kind, is3]
  exact kr _ _ (wp_out_d ⟨rfl, tk_self⟩)
theorem sb_nil : m_shows_barred [.d (pW W), .d (pW V), .d (.tuple [])] S = .ok (.d (.bool false)) S := by
  refine eq_of_wp (wp_fn rfl ?_)
  simp only [List.map_cons, List.map_nil, List.replicate, List.cons_append, List.nil_append, Nat.reduceSub]
  refine wp_seq fun K kn kr => ?_
  simp_arith [z00, z01, z02, z03, z10, z11, z12, z13, z20, z21, z22, z23, z30, z31, z32, z33, kind, is1]
  exact kr _ _ (wp_out_d ⟨rfl, tk_self⟩)
theorem ix_0 {x : PyData} {xs : List PyData} {U : Sto} : gIx (.d (.tuple (x :: xs))) (.d (.int 0)) U = .ok (.d x) U := by
  rw [o_ixT, at_nat (by decide) (show (x :: xs)[(0 : Int).toNat]? = some x from rfl)]
theorem ix_1 {x y : PyData} {xs : List PyData} {U : Sto} : gIx (.d (.tuple (x :: y :: xs))) (.d (.int 1)) U = .ok (.d y) U := by
  rw [o_ixT, at_nat (by decide) (show (x :: y :: xs)[(1 : Int).toNat]? = some y from rfl)]
theorem sb_one {s : Str} (h : ¬ s = Str.ofString "count") : m_shows_barred [.d (pW W), .d (pW V), .d (.tuple [.str s])] S = .ok (.d (.bool false)) S := by
  refine eq_of_wp (wp_fn rfl ?_)
  simp only [List.map_cons, List.map_nil, List.replicate, List.cons_append, List.nil_append, Nat.reduceSub]
  refine wp_seqN fun K kn => ?_
  simp_arith [z00, z01, z02, z03, z10, z11, z12, z13, z20, z21, z22, z23, z30, z31, z32, z33, kind, is1, is4, ix_0]
  refine kn _ _ ?_
  clear kn K
  refine wp_seq fun K kn kr => ?_
  simp_arith [z00, z01, z02, z03, z10, z11, z12, z13, z20, z21, z22, z23, z30, z31, z32, z33, ix_0, decide_eq_false h]
  exact kr _ _ (wp_out_d ⟨rfl, tk_self⟩)
theorem sb_count : m_shows_barred [.d (pW W), .d (pW V), .d (.tuple [.str (Str.ofString "count")])] S = .ok (.d (.bool (moreB W V))) S := by
  have m := more_eq (W := W) (V := V) (S := S)
  refine eq_of_wp (wp_fn rfl ?_)
  simp only [List.map_cons, List.map_nil, List.replicate, List.cons_append, List.nil_append, Nat.reduceSub]
  refine wp_seqN fun K kn => ?_
  simp_arith [z00, z01, z02, z03, z10, z11, z12, z13, z20, z21, z22, z23, z30, z31, z32, z33, kind, is1, is4, ix_0]
  refine kn _ _ ?_
  clear kn K
  refine wp_seq fun K kn kr => ?_
  simp_arith [z00, z01, z02, z03, z10, z11, z12, z13, z20, z21, z22, z23, z30, z31, z32, z33, ix_0, m]
  exact kr _ _ (wp_out_d ⟨rfl, tk_self⟩)
theorem sb_two {s : Str} {x : PyData} {b : Bool} (h : m_bars_by [.d (pW W), .d (pW V), .d (.str s), .d x] S = .ok (.d (.bool b)) S) : m_shows_barred [.d (pW W), .d (pW V), .d (.tuple [.str s, x])] S = .ok (.d (.bool b)) S := by
  refine eq_of_wp (wp_fn rfl ?_)
  simp only [List.map_cons, List.map_nil, List.replicate, List.cons_append, List.nil_append, Nat.reduceSub]
  refine wp_seqN fun K kn => ?_
  simp_arith [z00, z01, z02, z03, z10, z11, z12, z13, z20, z21, z22, z23, z30, z31, z32, z33, kind, is1, is4, ix_0]
  refine kn _ _ ?_
  clear kn K
  refine wp_seqN fun K kn => ?_
  simp_arith [z00, z01, z02, z03, z10, z11, z12, z13, z20, z21, z22, z23, z30, z31, z32, z33]
  refine kn _ _ ?_
  clear kn K
  refine wp_seq fun K kn kr => ?_
  simp_arith [z00, z01, z02, z03, z10, z11, z12, z13, z20, z21, z22, z23, z30, z31, z32, z33, ix_0, ix_1, h]
  exact kr _ _ (wp_out_d ⟨rfl, tk_self⟩)
theorem sb_three {s : Str} {x y : PyData} (h : ¬ s = Str.ofString "wall") : m_shows_barred [.d (pW W), .d (pW V), .d (.tuple [.str s, x, y])] S = .ok (.d (.bool false)) S := by
  refine eq_of_wp (wp_fn rfl ?_)
  simp only [List.map_cons, List.map_nil, List.replicate, List.cons_append, List.nil_append, Nat.reduceSub]
  refine wp_seqN fun K kn => ?_
  simp_arith [z00, z01, z02, z03, z10, z11, z12, z13, z20, z21, z22, z23, z30, z31, z32, z33, kind, is1, is4, ix_0]
  refine kn _ _ ?_
  clear kn K
  refine wp_seqN fun K kn => ?_
  simp_arith [z00, z01, z02, z03, z10, z11, z12, z13, z20, z21, z22, z23, z30, z31, z32, z33]
  refine kn _ _ ?_
  clear kn K
  refine wp_seqN fun K kn => ?_
  simp_arith [z00, z01, z02, z03, z10, z11, z12, z13, z20, z21, z22, z23, z30, z31, z32, z33]
  refine kn _ _ ?_
  clear kn K
  simp_arith [z00, z01, z02, z03, z10, z11, z12, z13, z20, z21, z22, z23, z30, z31, z32, z33, ix_0, decide_eq_false h]
  exact wp_out_d ⟨rfl, tk_self⟩
theorem right_of {x : PyData} {b : Bool} (h : m_shows_barred [.d (pW W), .d (pW V), .d x] S = .ok (.d (.bool b)) S) : m_l_right [.d (pW W), .d (pW V), .d x, .d (.bool b)] S = .ok (.d (.bool true)) S := by
  have eb : gEq (.d (.bool b)) (.d (.bool b)) S = .ok (.d (.bool true)) S := by
    rw [o_eq (x := .bool b) (y := .bool b) rfl rfl (shaped_bool _) (shaped_bool _)]
    cases b <;> rfl
  have ib : isOf "bool" "bool" = true := by decide
  refine eq_of_wp (wp_fn rfl ?_)
  simp only [List.map_cons, List.map_nil, List.replicate, List.cons_append, List.nil_append, Nat.reduceSub]
  refine wp_seqN fun K kn => ?_
  simp_arith [z00, z01, z02, z03, z10, z11, z12, z13, z20, z21, z22, z23, z30, z31, z32, z33, h]
  refine kn _ _ ?_
  clear kn K
  simp_arith [z00, z01, z02, z03, z10, z11, z12, z13, z20, z21, z22, z23, z30, z31, z32, z33, kind, ib, eb]
  exact wp_out_d ⟨rfl, tk_self⟩
end
end Z
set_option Elab.async false
set_option linter.all false
set_option maxRecDepth 100000
set_option maxHeartbeats 1000000
/-! the law of k50 -/
namespace Z
open PySem PySem.Spec PyProof.Rows L2 MV
local macro_rules | `(tactic| simp_arith [$ls,*]) => `(tactic| simp only [e_V, e_K, e_2, e_tst, e_bAnd, e_bOr, e_bNot, e_And, e_Or, e_Not, e_If, e_Un, e_Chain, e_aNil, e_aCons, e_Tup, e_Lst, datas_nil, datas_d, e_Call, e_sNil, e_sBk, e_sCt, e_sEx, e_sRt, e_sRtN, e_sIf, e_sSet, e_sCell, e_sAsg, e_sPar, e_sPar3, e_sMul, e_setAll, e_setAll0, e_aCell, e_sPut, e_sAug, e_Isi, e_oNo, e_oYes, e_Sl, go_name, go_tup, goL_nil, goL_cons, go_P, go_W, e_bYes, th_d, th_c, th_z, th_f, th_fd, data_lst, data_dic, bind_ok, wp_ok, if_true, if_false, ite_true, ite_false, decide_true, decide_false, Bool.not_true, Bool.not_false, Bool.false_eq_true, Bool.true_eq_false, List.getElem?_cons_zero, List.getElem?_cons_succ, List.set_cons_zero, List.set_cons_succ, List.map_cons, List.map_nil, List.replicate, List.cons_append, List.nil_append, Option.map_some, List.length_cons, List.length_nil, Nat.reduceAdd, Nat.reduceSub, Nat.reduceLeDiff, Nat.zero_le, Nat.zero_add, o_sub, o_add, o_lt, o_le, o_gt, o_ge, o_eqI, o_neI, o_eqS, o_neS, g_lenT, g_lenL, g_lenZ, g_tupT, g_tupL, g_listT, g_listL, g_intB, g_intI, g_min2, g_max2, e_Dic0, e_dNil, e_dCons, BEq.rfl, $ls,*])
local macro_rules | `(tactic| simp_all_arith [$ls,*]) => `(tactic| (refine wp_seq fun K kn kr => ?_; simp_arith [$ls,*]; (first | refine kn _ _ ?_ | refine kr _ _ ?_); clear kn kr K))
theorem wp_bindA {α β : Type} {r : Res α} {a : α} {S : Sto} {f : α → Sto → Res β} {Q : β → Sto → Prop} (e : r = .ok a S) (h : wp (f a S) Q) : wp (r.bind f) Q := by
  rw [e]
  exact h
def Odd (W V : Web) (x : PyData) : Prop := ∀ S : Sto, m_shows_barred [.d (pW W), .d (pW V), .d x] S = .ok (.d (.bool false)) S
def wordsD : PyData := .list (kdAll.map fun k => .str (kdS k))
theorem words_eq : PyData.list [.str (Str.ofString "bare"), .str (Str.ofString "pairs"), .str (Str.ofString "hub"), .str (Str.ofString "stars"), .str (Str.ofString "rows"), .str (Str.ofString "combs"), .str (Str.ofString "forest"), .str (Str.ofString "rings"), .str (Str.ofString "series")] = wordsD := rfl
def things5 (k : Kd) : List PyData := [.tuple [.str (Str.ofString "kind"), .str (kdS k), .str (kdS k)], .tuple [.str (kdS k)], .tuple [.str (Str.ofString "kind"), .tuple [.str (kdS k)]], .tuple [.str (Str.ofString "kinds"), .str (kdS k)], .list [.str (Str.ofString "kind"), .str (kdS k)]]
def oddA : List PyData := [.tuple [.str (Str.ofString "count"), .tuple []], .tuple [.str (Str.ofString "count"), .none], .list [.str (Str.ofString "count")], .str (Str.ofString "count"), .tuple [.str (Str.ofString "Count")], .tuple [.str (Str.ofString "kind")], .tuple [.str (Str.ofString "kind"), .str (Str.ofString "")], .tuple [.str (Str.ofString "kind"), .none]]
def oddB : List PyData := [.tuple [.str (Str.ofString "kind"), .str (Str.ofString "tree")], .tuple [.str (Str.ofString "kind"), .int 0], .tuple [.str (Str.ofString "kind"), .bool true], .tuple [.str (Str.ofString "kind"), wordsD], .tuple [.str (Str.ofString "kind"), .tuple (kdAll.map fun k => .str (kdS k))], .tuple []]
theorem kd_count (k : Kd) : ¬ kdS k = Str.ofString "count" := by cases k <;> decide +kernel
section
variable {W V : Web}
theorem dec_kinds {k : Kd} : decide (Wd.inl k ∈ (kindsL W).map Wd.inl) = kindB W k := by
  cases h : kindB W k
  · exact decide_eq_false (fun q => by rw [mem_kinds.mp q] at h; cases h)
  · exact decide_eq_true (mem_kinds.mpr h)
theorem odd5 (k : Kd) : ∀ x ∈ things5 k, Odd W V x := by
  have p1 : Plain (Str.ofString "kinds") := ⟨by decide +kernel, by decide +kernel, by decide +kernel, by decide +kernel⟩
  have nw : ¬ Str.ofString "kind" = Str.ofString "wall" := by decide +kernel
  intro x hx S
  simp only [things5, List.mem_cons, List.not_mem_nil, or_false] at hx
  rcases hx with rfl | rfl | rfl | rfl | rfl
  · exact sb_three nw
  · exact sb_one (kd_count k)
  · exact sb_two (by_odd ⟨_, rfl, is5'⟩)
  · exact sb_two (by_plain p1)
  · exact sb_list
where is5' : isOf "str" "tuple" = false := by decide
theorem oddAB (hW : Ws W) (hV : Ws V) : ∀ x ∈ oddA ++ oddB, Odd W V x := by
  have p1 : Plain (Str.ofString "count") := ⟨by decide +kernel, by decide +kernel, by decide +kernel, by decide +kernel⟩
  have n1 : ¬ Str.ofString "Count" = Str.ofString "count" := by decide +kernel
  have n2 : ¬ Str.ofString "kind" = Str.ofString "count" := by decide +kernel
  have j1 : isOf "str" "NoneType" = false := by decide
  have j2 : isOf "str" "int" = false := by decide
  have j3 : isOf "str" "bool" = false := by decide
  have j4 : isOf "str" "list" = false := by decide
  have j5 : isOf "str" "tuple" = false := by decide
  have bk : ∀ (b : Bool) (S : Sto), m_bars_by [.d (pW W), .d (pW V), .d (.str (Str.ofString "kind")), .d (wdD (.inr b))] S = .ok (.d (.bool false)) S := fun b S => by
    rw [by_kind hW hV, decide_eq_false mem_kindsR]
    rfl
  intro x hx S
  simp only [oddA, oddB, List.mem_append, List.mem_cons, List.not_mem_nil, or_false] at hx
  rcases hx with (rfl | rfl | rfl | rfl | rfl | rfl | rfl | rfl) | rfl | rfl | rfl | rfl | rfl | rfl
  · exact sb_two (by_plain p1)
  · exact sb_two (by_plain p1)
  · exact sb_list
  · exact sb_str
  · exact sb_one n1
  · exact sb_one n2
  · exact sb_two (bk false S)
  · exact sb_two (by_odd ⟨_, rfl, j1⟩)
  · exact sb_two (bk true S)
  · exact sb_two (by_odd ⟨_, rfl, j2⟩)
  · exact sb_two (by_odd ⟨_, rfl, j3⟩)
  · exact sb_two (by_odd ⟨_, rfl, j4⟩)
  · exact sb_two (by_odd ⟨_, rfl, j5⟩)
  · exact sb_nil
end
theorem law_true (ns : List Int) (hl : ns.length ≤ 63) : ∃ S, m_law [.z (dI ns)] [] = .ok (.d (.bool true)) S := by
  have hz := hzQ
  suffices h : wp (m_law [.z (dI ns)] []) fun v _ => v = .d (.bool true) by
    obtain ⟨v, S, e, rfl⟩ := h.ex
    exact ⟨S, e⟩
  refine wp_fn rfl ?_
  simp only [List.map_cons, List.map_nil, List.replicate, List.cons_append, List.nil_append, Nat.reduceSub]
  refine wp_seqN fun K kn => ?_
  simp_arith []
  rw [words_eq]
  refine kn _ _ ?_
  clear kn K
  refine wp_seqN fun K kn => ?_
  obtain ⟨mm, hm, hr⟩ : ∃ mm : Nat, mm ≤ 7 ∧ (iBy gRange1 (aCons (ev2 gAdd (evCall (g1 fLen) (aCons (evSl (evV 0) (oNo) (oYes (evK (.int 6)))) (aNil))) (evK (.int 1))) (aNil))) [some (.z (dI ns)), some (.d wordsD), none, none, none, none, none, none, none, none, none] ([] : Sto) = .ok ⟨iota 0 mm, []⟩ [] := by
    refine ⟨(((ns.take 6).length : Int) + 1).toNat, by simp; omega, ?_⟩
    have e1 : gSl (.z (dI ns)) none (some 6) ([] : Sto) = .ok (.f (.lst (dI (ns.take 6)))) [] := by
      rw [o_slZ, cut_to (by decide), dI, dI, List.map_take]
      rfl
    have lz : (dI (ns.take 6)).length = (ns.take 6).length := by unfold dI; rw [List.length_map]
    have l6 : (ns.take 6).length ≤ 6 := by rw [List.length_take]; omega
    simp_arith [e_iBy, e1, lz]
    rw [e_range1 (by omega) (by omega)]
  refine wp_forK (fun (pre : List Nat) ρ T => ∃ o2 o3 o4 o5 o6 o7 o8 o9 o10, ρ = [some (.z (dI ns)), some (.d wordsD), o2, o3, o4, o5, o6, o7, o8, o9, o10]) (List.range mm) (fun i => .int (0 + (i : Int))) (s := ⟨iota 0 mm, []⟩) (S1 := []) hr rfl (fun _ _ _ _ => gok_nil) ⟨none, none, none, none, none, none, none, none, none, rfl⟩ ?_ ?_
  · rintro pre i post ρ T e ⟨o2, o3, o4, o5, o6, o7, o8, o9, o10, rfl⟩
    obtain ⟨hi1, hi2⟩ := range_at e
    refine ⟨_, rfl, fun K1 k1 kr1 => ?_⟩
    simp only [List.set_cons_zero, List.set_cons_succ]
    clear kr1 hr kn K e
    refine wp_seqN fun K2 k2 => ?_
    obtain ⟨v, T0, e1, rfl, g, s, rfl, ok⟩ := (potQ_wp ns i (by omega) (by omega) T).ex
    rw [show ((i : Int)) = 0 + (i : Int) by omega] at e1
    simp_arith [e1]
    refine k2 _ _ ?_
    clear k2 K2 e1
    have h0 : Pq (T0 ++ [potQ g s 0]) T0.length 0 (T0 ++ [potQ g s 0]) := ⟨Nat.le_refl _, fun _ _ _ => rfl, by simp, g, s, 0, by simp, ok⟩
    generalize T0 ++ [potQ g s 0] = S at h0
    generalize T0.length = n at h0
    obtain ⟨S1, r1, e1, hP1, hl1, r10, r11⟩ := takeQ h0 (by decide) (k := 8) (by decide) (by decide)
    obtain ⟨most, hmo, emo⟩ := at_ex (xs := [10, 25]) (r := r1 / 7) (by omega) (by simp; omega)
    have emo : gIx (.d (.list [.int 10, .int 25])) (.d (.int (r1 / 7))) S1 = .ok (.d (.int most)) S1 := by
      rw [o_ixL]
      simp only [dI, List.map_cons, List.map_nil] at emo
      rw [emo]
    have mo : most = 10 ∨ most = 25 := by simpa using hmo
    refine wp_seqN fun K2 k2 => ?_
    have dv : gDiv (.d (.int r1)) (.d (.int 7)) S1 = .ok (.d (.int (r1 / 7))) S1 := o_div (by decide) (by decide)
    simp_arith [e1, dv, emo]
    refine k2 _ _ ?_
    clear k2 K2
    obtain ⟨S2, r2, e2, hP2, hl2, r20, r21⟩ := takeQ (k := most) hP1 (by omega) (by omega) (by omega)
    obtain ⟨m2, rfl⟩ : ∃ m : Nat, r2 = (m : Int) := ⟨r2.toNat, by omega⟩
    obtain ⟨S3, W, e3, hP3, hl3, hW, hWl⟩ := webQ (many := m2) hP2 (by omega) (by omega)
    obtain ⟨S4, r4, e4, hP4, hl4, r40, r41⟩ := takeQ (k := 5) hP3 (by omega) (by omega) (by omega)
    obtain ⟨m4, hm4⟩ : ∃ m : Nat, 1 + r4 = (m : Int) := ⟨(1 + r4).toNat, by omega⟩
    obtain ⟨S5, V, e5, hP5, hl5, hV, hVl⟩ := webQ (many := m4) hP4 (by omega) (by omega)
    refine wp_seqN fun K2 k2 => ?_
    simp_arith [e2, e3, e4, hm4, e5, and_self]
    refine k2 _ _ ?_
    clear k2 K2 e1 e2 e3 e4 e5 emo dv hP5 hP4 hP3 hP2 hP1 h0
    -- what is due for counts
    have g0 : ∀ (W : Web) (U : Sto), gIx (.d (pW W)) (.d (.int 0)) U = .ok (.d (pT W.1)) U := fun W U => rfl
    have gg : ∀ (W : Web) (U : Sto), gIx (.d (pW W)) (.d (.int 1)) U = .ok (.d (pTs W.2)) U := fun W U => rfl
    have l0 : ∀ (W : Web) (U : Sto), g1 fLen [.d (pT W.1)] U = .ok (.d (.int (W.1.length : Int))) U := fun W U => by unfold pT; rw [g_lenT]; simp
    have ll : ∀ (W : Web) (U : Sto), g1 fLen [.d (pTs W.2)] U = .ok (.d (.int (W.2.length : Int))) U := fun W U => by unfold pTs; rw [g_lenT]; simp
    have due : ∀ o5' : Option Val, evOr (ev2 gGt (evCall (g1 fLen) (aCons (ev2 gIx (evV 9) (evK (.int 0))) (aNil))) (evCall (g1 fLen) (aCons (ev2 gIx (evV 8) (evK (.int 0))) (aNil)))) (ev2 gGt (evCall (g1 fLen) (aCons (ev2 gIx (evV 9) (evK (.int 1))) (aNil))) (evCall (g1 fLen) (aCons (ev2 gIx (evV 8) (evK (.int 1))) (aNil)))) [some (.z (dI ns)), some (.d wordsD), some (.d (.int (0 + (i : Int)))), some (.c n), some (.d (.int most)), o5', o6, o7, some (.d (pW W)), some (.d (pW V)), o10] S5 = .ok (.d (.bool (moreB W V))) S5 := by
      intro o5'
      unfold moreB
      rw [e_Or, e_tst]
      by_cases c : (W.1.length : Int) < V.1.length
      · simp_arith [g0, l0, c, Bool.true_or]
      · simp_arith [g0, gg, l0, ll, c, Bool.false_or]
    refine wp_seqN fun K2 k2 => ?_
    have d1 := due o5
    rw [e_sSet, d1]
    simp_arith []
    refine k2 _ _ ?_
    clear k2 K2 due d1
    have rc := right_of (W := W) (V := V) (S := S5) sb_count
    refine wp_seqN fun K2 k2 => ?_
    simp_arith [rc]
    refine k2 _ _ ?_
    clear k2 K2 rc
    -- the words
    refine wp_seqN fun K2 k2 => ?_
    refine wp_forK (fun (pr : List Kd) ρ U => ∃ o5 o6 o10, ρ = [some (.z (dI ns)), some (.d wordsD), some (.d (.int (0 + (i : Int)))), some (.c n), some (.d (.int most)), o5, o6, o7, some (.d (pW W)), some (.d (pW V)), o10] ∧ U = S5) kdAll (fun k => .str (kdS k)) (s := ⟨kdAll.map fun k => .str (kdS k), []⟩) (S1 := S5) rfl rfl (fun _ _ _ _ => gok_nil) ⟨_, _, _, rfl, rfl⟩ ?_ ?_
    · rintro pr k posr ρ U ek ⟨o5, o6, o10, rfl, rfl⟩
      refine ⟨_, rfl, fun K3 k3 kr3 => ?_⟩
      simp only [List.set_cons_zero, List.set_cons_succ]
      clear kr3 k2 K2
      have q1 := kind_eq hW k (S := U)
      have q2 := kind_eq hV k (S := U)
      have q3 : m_shows_barred [.d (pW W), .d (pW V), .d (.tuple [.str (Str.ofString "kind"), .str (kdS k)])] U = .ok (.d (.bool (kindB W k && !kindB V k))) U := by
        refine sb_two ((by_kind hW hV (.inl k)).trans ?_)
        have a1 : decide (Wd.inl k ∈ (kindsL W).map Wd.inl) = kindB W k := dec_kinds
        have a2 : decide (Wd.inl k ∈ (kindsL V).map Wd.inl) = kindB V k := dec_kinds
        rw [a1, a2]
      have rk := right_of q3
      refine wp_seqN fun K2 k2 => ?_
      have dk : evAnd (evCall m_is_kind (aCons (evV 6) (aCons (evV 8) (aNil)))) (evNot (evCall m_is_kind (aCons (evV 6) (aCons (evV 9) (aNil))))) [some (.z (dI ns)), some (.d wordsD), some (.d (.int (0 + (i : Int)))), some (.c n), some (.d (.int most)), o5, some (.d (.str (kdS k))), o7, some (.d (pW W)), some (.d (pW V)), o10] U = .ok (.d (.bool (kindB W k && !kindB V k))) U := by
        rw [e_And, e_tst]
        simp_arith [q1]
        cases kindB W k
        · rfl
        · simp_arith [q2]
          rfl
      rw [e_sSet, dk]
      simp_arith []
      refine k2 _ _ ?_
      clear k2 K2 dk
      refine wp_seqN fun K2 k2 => ?_
      simp_arith [rk]
      refine k2 _ _ ?_
      clear k2 K2 rk q3 q1 q2
      refine wp_forK (fun (p5 : List PyData) ρ V' => ∃ o10, ρ = [some (.z (dI ns)), some (.d wordsD), some (.d (.int (0 + (i : Int)))), some (.c n), some (.d (.int most)), some (.d (.bool (kindB W k && !kindB V k))), some (.d (.str (kdS k))), o7, some (.d (pW W)), some (.d (pW V)), o10] ∧ V' = U) (things5 k) id (s := ⟨things5 k, []⟩) (S1 := U) (by
        simp_arith [e_iSeq, seq_l]
        rfl) (by rw [List.map_id]) (fun _ _ _ _ => gok_nil) ⟨_, rfl, rfl⟩ ?_ ?_
      · rintro p5 x q5 ρ U5 e5 ⟨o10, rfl, rfl⟩
        refine ⟨_, rfl, fun K3 k3 kr3 => ?_⟩
        simp only [List.set_cons_zero, List.set_cons_succ, id]
        have ro := right_of (odd5 (W := W) (V := V) k x (by rw [e5]; simp) U5)
        simp_arith [ro]
        exact k3 _ _ ⟨_, rfl, rfl⟩
      · rintro ρ U5 ⟨o10, rfl, rfl⟩
        exact k3 _ _ ⟨_, _, _, rfl, rfl⟩
    · rintro ρ U ⟨o5, o6, o10, rfl, rfl⟩
      refine k2 _ _ ?_
      clear k2 K2
      -- odd things
      refine wp_seqN fun K2 k2 => ?_
      simp_arith []
      refine k2 _ _ ?_
      clear k2 K2
      refine wp_seqN fun K2 k2 => ?_
      have gT : g1 fTuple [.d wordsD] U = .ok (.d (.tuple (kdAll.map fun k => .str (kdS k)))) U := g_tupL
      have gA : gAdd (.d (.list oddA)) (.d (.list oddB)) U = .ok (.f (.lst (oddA ++ oddB))) U := rfl
      simp_arith [gT]
      refine wp_bindA gA ?_
      simp_arith []
      refine k2 _ _ ?_
      clear k2 K2 gA gT
      have cp := comp_map (src := iSeq (evV 7)) (bd := bName 10) (t := bYes) (e := evCall m_l_right (aCons (evV 8) (aCons (evV 9) (aCons (evV 10) (aCons (evK (.bool false)) (aNil)))))) (own := [10]) (ρ := [some (.z (dI ns)), some (.d wordsD), some (.d (.int (0 + (i : Int)))), some (.c n), some (.d (.int most)), o5, o6, some (.d (.list (oddA ++ oddB))), some (.d (pW W)), some (.d (pW V)), o10]) (S := U) (s := ⟨oddA ++ oddB, []⟩) (oddA ++ oddB) id (fun _ => .bool true) rfl (by rw [List.map_id]) gok_nil (by simp [oddA, oddB]; omega) (fun x hx => ⟨_, by simp [wipeE]; rfl, by simp_arith [], _, by
        simp_arith [right_of (oddAB hW hV x hx U)]
        rfl, rfl⟩)
      have ga : g1 fAll [.d (.list ((oddA ++ oddB).map fun _ => PyData.bool true))] U = .ok (.d (.bool true)) U := g_all (bs := (oddA ++ oddB).map fun _ => true) (by rw [List.map_map]; rfl)
      simp_arith [cp, ga]
      exact k1 _ _ ⟨_, _, _, _, _, _, _, _, _, rfl⟩
  · rintro ρ T ⟨o2, o3, o4, o5, o6, o7, o8, o9, o10, rfl⟩
    refine kn _ _ ?_
    simp_arith []
    exact wp_out_d rfl
end Z
set_option Elab.async false
set_option linter.all false
set_option maxRecDepth 100000
set_option maxHeartbeats 4000000
namespace Z
open PySem PySem.Spec PyProof.Rows L2 MV
structure Txt (K : PySem.W.Frag) (mg : Str → Option Value) : Prop where
  b_abs : mg "abs" = none
  b_all : mg "all" = none
  b_any : mg "any" = none
  b_bool : mg "bool" = none
  b_dict : mg "dict" = none
  b_enumerate : mg "enumerate" = none
  b_int : mg "int" = none
  b_isinstance : mg "isinstance" = none
  b_len : mg "len" = none
  b_list : mg "list" = none
  b_max : mg "max" = none
  b_min : mg "min" = none
  b_range : mg "range" = none
  b_set : mg "set" = none
  b_sorted : mg "sorted" = none
  b_str : mg "str" = none
  b_sum : mg "sum" = none
  b_tuple : mg "tuple" = none
  b_zip : mg "zip" = none
  k_MOST_BOOK : ∃ t, mg "MOST_BOOK" = some (.int 9 t)
  k_WORDS : ∃ a, mg "WORDS" = some (.ref a) ∧ KTup K a [.str (Str.ofString "bare"), .str (Str.ofString "pairs"), .str (Str.ofString "hub"), .str (Str.ofString "stars"), .str (Str.ofString "rows"), .str (Str.ofString "combs"), .str (Str.ofString "forest"), .str (Str.ofString "rings"), .str (Str.ofString "series")]
  f_below : ClsF K ["Errand"] "below"
  f_free : ClsF K ["Half"] "free"
  f_lots : ClsF K ["Half"] "lots"
  f_near : ClsF K ["Errand"] "near"
  f_places : ClsF K ["Errand"] "places"
  f_tied : ClsF K ["Errand"] "tied"
  f_twins : ClsF K ["Errand"] "twins"
  f_wanted : ClsF K ["Errand"] "wanted"
  f_what : ClsF K ["Errand"] "what"
section
variable {P : Program} {w : World} {K : PySem.W.Frag} {mg : Str → Option Value} {base : Heap} {f : Addr} {fd : FuncData}
theorem sc_tied_to : FnScope n_tied_to ["web"] (defScope s_tied_to) := ⟨rfl, rfl, rfl, by decide +kernel, rfl, by decide +kernel, by decide +kernel⟩
theorem c_tied_to (T : Txt K mg) (F : Fun K "tied_to" "tied_to" s_tied_to f fd) (hm : mg "tied_to" = some (.ref f))  : Cal P w K mg base 1 "tied_to" m_tied_to := by
  have hb := (F.binds (ps := ["web"]) fun _ _ _ _ _ _ us hl => match us, hl with | [_], _ => rfl)
  have hc := @cal_mk P w K mg base "tied_to" "tied_to" s_tied_to f fd n_tied_to ["web"] 0 1 y_tied_to F sc_tied_to rfl hm hb
  refine hc fun cdv A outer s H E hr gd => ?_
  have nd := sc_tied_to.nd
  have hu := hu_room hr
  exact ssFzG 1 (sCellR 1 nd rfl (by first | exact Or.inl rfl | exact Or.inr rfl) (eDictL (own := [("place", 4)]) rfl nd rfl T.b_dict (iS (eIx hu (eV 0) (eInt))) (blkOk_by (by kernel_rfl)) (by decide) (fun
      _ _ _ _ _ => gN (i := 4) nd rfl (by first | exact Or.inl rfl | exact Or.inr rfl)) (fun _ _ _ _ _ => pe_tup (pa_cons (eV 4) (pa_cons (pe_lst pa_nil) pa_nil))))) (sFor PassesOwn.never rfl (iS (eIx
      hu (eV 0) (eInt))) (gT rfl (gsC (gN (i := 2) nd rfl (by first | exact Or.inl rfl | exact Or.inr rfl)) (gsC (gN (i := 3) nd rfl (by first | exact Or.inl rfl | exact Or.inr rfl)) (gsN)))) (ssC (sExpr (eM PySem.F.plainAttrs_list PySem.F.slot_list_append
      PySem.F.type_list_append mAppend (eIxR hu (eV 1) (eV 2)) (aC (eV 3) (aN)))) (ss1 (sExpr (eM PySem.F.plainAttrs_list PySem.F.slot_list_append PySem.F.type_list_append
      mAppend (eIxR hu (eV 1) (eV 3)) (aC (eV 2) (aN))))))) (ss1 (sRet (eV 1)))
theorem sc_most_ties : FnScope n_most_ties ["web"] (defScope s_most_ties) := ⟨rfl, rfl, rfl, by decide +kernel, rfl, by decide +kernel, by decide +kernel⟩
theorem c_most_ties (T : Txt K mg) (F : Fun K "most_ties" "most_ties" s_most_ties f fd) (hm : mg "most_ties" = some (.ref f)) (C_tied_to : Cal P w K mg base 1 "tied_to" m_tied_to) : Cal P w K mg base 2 "most_ties" m_most_ties := by
  have hb := (F.binds (ps := ["web"]) fun _ _ _ _ _ _ us hl => match us, hl with | [_], _ => rfl)
  have hc := @cal_mk P w K mg base "most_ties" "most_ties" s_most_ties f fd n_most_ties ["web"] 1 1 y_most_ties F sc_most_ties rfl hm hb
  refine hc fun cdv A outer s H E hr gd => ?_
  have nd := sc_most_ties.nd
  have hu := hu_room hr
  exact ss1 (sRet (eMaxD rfl hu rfl T.b_max (eComp (own := [("some", 1)]) rfl nd (iVD (eCal C_tied_to hr gd (by first | decide | omega) rfl (aC (eV 0) (aN)))) (blkOk_by (by kernel_rfl))
      (by decide) (fun _ _ _ _ _ => gN (i := 1) nd rfl (by first | exact Or.inl rfl | exact Or.inr rfl)) (fun _ _ _ _ _ => tsN) (fun _ _ _ _ _ => eB bLen rfl T.b_len (by decide +kernel) (aC (eV 1) (aN))))
      (eInt)))
theorem sc_near : FnScope n_near ["web", "place"] (defScope s_near) := ⟨rfl, rfl, rfl, by decide +kernel, rfl, by decide +kernel, by decide +kernel⟩
theorem c_near (T : Txt K mg) (F : Fun K "near" "near" s_near f fd) (hm : mg "near" = some (.ref f))  : Cal P w K mg base 1 "near" m_near := by
  have hb := (F.binds (ps := ["web", "place"]) fun _ _ _ _ _ _ us hl => match us, hl with | [_, _], _ => rfl)
  have hc := @cal_mk P w K mg base "near" "near" s_near f fd n_near ["web", "place"] 0 2 y_near F sc_near rfl hm hb
  refine hc fun cdv A outer s H E hr gd => ?_
  have nd := sc_near.nd
  have hu := hu_room hr
  exact ssC (sSetLc 2 (own := [("a", 4), ("b", 5)]) rfl nd rfl rfl (sw_true rfl rfl rfl (by decide +kernel)) (iS (eIx hu (eV 0) (eInt))) (blkOk_by (by kernel_rfl))
      (by decide) (fun _ _ _ _ _ => gT rfl (gsC (gN (i := 4) nd rfl (by first | exact Or.inl rfl | exact Or.inr rfl)) (gsC (gN (i := 5) nd rfl (by first | exact Or.inl rfl | exact Or.inr rfl)) (gsN)))) (fun _ _ _ _ _ => ts1 (bCmp (oEq hu) (eV
      5) (eV 1))) (fun _ _ _ _ _ => eV 4)) (ssC (sSetLc 3 (own := [("a", 4), ("b", 5)]) rfl nd rfl rfl (sw_true rfl rfl rfl (by decide +kernel)) (iS (eIx hu
      (eV 0) (eInt))) (blkOk_by (by kernel_rfl)) (by decide) (fun _ _ _ _ _ => gT rfl (gsC (gN (i := 4) nd rfl (by first | exact Or.inl rfl | exact Or.inr rfl)) (gsC (gN (i := 5) nd rfl (by first | exact Or.inl rfl | exact Or.inr rfl)) (gsN))))
      (fun _ _ _ _ _ => ts1 (bCmp (oEq hu) (eV 4) (eV 1))) (fun _ _ _ _ _ => eV 5)) (ss1 (sRet (eT bTuple rfl T.b_tuple (by decide +kernel) (aC (eB (bSorted
      hu) rfl T.b_sorted (by decide +kernel) (aC (eOp oAdd (eV 2) (eV 3)) (aN))) (aN))))))
theorem sc_piece_of : FnScope n_piece_of ["web", "some", "place"] (defScope s_piece_of) := ⟨rfl, rfl, rfl, by decide +kernel, rfl, by decide +kernel, by decide +kernel⟩
theorem c_piece_of (T : Txt K mg) (F : Fun K "piece_of" "piece_of" s_piece_of f fd) (hm : mg "piece_of" = some (.ref f)) (C_near : Cal P w K mg base 1 "near" m_near) : Cal P w K mg base 2 "piece_of" m_piece_of := by
  have hb := (F.binds (ps := ["web", "some", "place"]) fun _ _ _ _ _ _ us hl => match us, hl with | [_, _, _], _ => rfl)
  have hc := @cal_mk P w K mg base "piece_of" "piece_of" s_piece_of f fd n_piece_of ["web", "some", "place"] 1 3 y_piece_of F sc_piece_of rfl hm hb
  refine hc fun cdv A outer s H E hr gd => ?_
  have nd := sc_piece_of.nd
  have hu := hu_room hr
  exact ssC (sCellR 3 nd rfl (by first | exact Or.inl rfl | exact Or.inr rfl) (eDic (ddC (eV 2) (eBl) (ddN)))) (ssC (sCellR 4 nd rfl (by first | exact Or.inl rfl | exact Or.inr rfl) (eLst (aC (eV 2) (aN)))) (ssC (sWhile 1000000 PassesOwn.never (bCmp
      (oGt hu) (eB bLen rfl T.b_len (by decide +kernel) (aC (eV 4) (aN))) (eInt)) (ss1 (sFor PassesOwn.never rfl (iS (eCal C_near hr gd (by first | decide | omega) rfl (aC (eV 0)
      (aC (eM0 PySem.F.plainAttrs_list PySem.F.slot_list_pop PySem.F.type_list_pop mPop (eV 4)) (aN))))) (gN (i := 5) nd rfl (by first | exact Or.inl rfl | exact Or.inr rfl)) (ss1 (sIfR (bPw (wAnd (bCmp
      (oIn hu) (eV 5) (eV 1)) (wAnd1 (bCmp (oNotIn hu) (eV 5) (eV 3))))) (ssC (sPutR hu (eV 3) (eV 5) (eBl)) (ss1 (sExpr (eM PySem.F.plainAttrs_list PySem.F.slot_list_append
      PySem.F.type_list_append mAppend (eV 4) (aC (eV 5) (aN)))))) (ssN)))))) (ss1 (sRet (eT bTuple rfl T.b_tuple (by decide +kernel) (aC (eB (bSortedK rfl)
      rfl T.b_sorted (by decide +kernel) (aC (eV 3) (aN))) (aN)))))))
theorem sc_pieces : FnScope n_pieces ["web", "some"] (defScope s_pieces) := ⟨rfl, rfl, rfl, by decide +kernel, rfl, by decide +kernel, by decide +kernel⟩
theorem c_pieces (T : Txt K mg) (F : Fun K "pieces" "pieces" s_pieces f fd) (hm : mg "pieces" = some (.ref f)) (C_piece_of : Cal P w K mg base 2 "piece_of" m_piece_of) : Cal P w K mg base 3 "pieces" m_pieces := by
  have hb := (F.binds (ps := ["web", "some"]) fun _ _ _ _ _ _ us hl => match us, hl with | [_, _], _ => rfl)
  have hc := @cal_mk P w K mg base "pieces" "pieces" s_pieces f fd n_pieces ["web", "some"] 2 2 y_pieces F sc_pieces rfl hm hb
  refine hc fun cdv A outer s H E hr gd => ?_
  have nd := sc_pieces.nd
  have hu := hu_room hr
  exact ssC (sCellR 2 nd rfl (by first | exact Or.inl rfl | exact Or.inr rfl) (eDic0)) (ssC (sCellR 3 nd rfl (by first | exact Or.inl rfl | exact Or.inr rfl) (eLst (aN))) (ssC (sFor PassesOwn.never rfl (iS (eV 1)) (gN (i := 4) nd rfl (by first | exact Or.inl rfl | exact Or.inr rfl)) (ss1
      (sIfR (bCmp (oNotIn hu) (eV 4) (eV 2)) (ssC (sSetR 5 nd rfl (by first | exact Or.inl rfl | exact Or.inr rfl) (eCal C_piece_of hr gd (by first | decide | omega) rfl (aC (eV 0) (aC (eV 1) (aC (eV 4) (aN)))))) (ssC (sExpr
      (eM PySem.F.plainAttrs_list PySem.F.slot_list_append PySem.F.type_list_append mAppend (eV 3) (aC (eV 5) (aN)))) (ss1 (sExpr (eM PySem.F.plainAttrs_dict
      PySem.F.slot_dict_update PySem.F.type_dict_update (mUpdate rfl) (eV 2) (aC (eComp (own := [("one", 6)]) rfl nd (iS (eV 5)) (blkOk_by (by kernel_rfl))
      (by decide) (fun _ _ _ _ _ => gN (i := 6) nd rfl (by first | exact Or.inl rfl | exact Or.inr rfl)) (fun _ _ _ _ _ => tsN) (fun _ _ _ _ _ => eTup (aC (eV 6) (aC (eBl) (aN))))) (aN))))))) (ssN))))
      (ss1 (sRet (eT bTuple rfl T.b_tuple (by decide +kernel) (aC (eV 3) (aN)))))))
theorem sc_is_forest : FnScope n_is_forest ["web"] (defScope s_is_forest) := ⟨rfl, rfl, rfl, by decide +kernel, rfl, by decide +kernel, by decide +kernel⟩
theorem c_is_forest (T : Txt K mg) (F : Fun K "is_forest" "is_forest" s_is_forest f fd) (hm : mg "is_forest" = some (.ref f)) (C_pieces : Cal P w K mg base 3 "pieces" m_pieces) : Cal P w K mg base 4 "is_forest" m_is_forest := by
  have hb := (F.binds (ps := ["web"]) fun _ _ _ _ _ _ us hl => match us, hl with | [_], _ => rfl)
  have hc := @cal_mk P w K mg base "is_forest" "is_forest" s_is_forest f fd n_is_forest ["web"] 3 1 y_is_forest F sc_is_forest rfl hm hb
  refine hc fun cdv A outer s H E hr gd => ?_
  have nd := sc_is_forest.nd
  have hu := hu_room hr
  exact ss1 (sRet (eCmp (oEq hu) (eOp oAdd (eB bLen rfl T.b_len (by decide +kernel) (aC (eIx hu (eV 0) (eInt)) (aN))) (eB bLen rfl T.b_len (by decide +kernel) (aC
      (eCal C_pieces hr gd (by first | decide | omega) rfl (aC (eV 0) (aC (eIx hu (eV 0) (eInt)) (aN)))) (aN)))) (eB bLen rfl T.b_len (by decide +kernel) (aC (eIx hu (eV 0) (eInt))
      (aN)))))
theorem sc_has_hub : FnScope n_has_hub ["web"] (defScope s_has_hub) := ⟨rfl, rfl, rfl, by decide +kernel, rfl, by decide +kernel, by decide +kernel⟩
theorem c_has_hub (T : Txt K mg) (F : Fun K "has_hub" "has_hub" s_has_hub f fd) (hm : mg "has_hub" = some (.ref f))  : Cal P w K mg base 1 "has_hub" m_has_hub := by
  have hb := (F.binds (ps := ["web"]) fun _ _ _ _ _ _ us hl => match us, hl with | [_], _ => rfl)
  have hc := @cal_mk P w K mg base "has_hub" "has_hub" s_has_hub f fd n_has_hub ["web"] 0 1 y_has_hub F sc_has_hub rfl hm hb
  refine hc fun cdv A outer s H E hr gd => ?_
  have nd := sc_has_hub.nd
  have hu := hu_room hr
  exact ssC (sIfR (bCmp (oEq hu) (eIx hu (eV 0) (eInt)) (eTup (aN))) (ss1 (sRet (eBl))) (ssN)) (ss1 (sRet (eB (bAny rfl) rfl T.b_any (by decide +kernel) (aC (eComp
      (own := [("place", 1)]) rfl nd (iS (eIx hu (eIx hu (eV 0) (eInt)) (eInt))) (blkOk_by (by kernel_rfl)) (by decide) (fun _ _ _ _ _ => gN (i := 1) nd rfl
      (by first | exact Or.inl rfl | exact Or.inr rfl)) (fun _ _ _ _ _ => tsN) (fun _ _ _ _ _ => eB (bAll rfl) rfl T.b_all (by decide +kernel) (aC (eComp (own := [("tie", 2)]) rfl nd (iS (eIx hu (eV
      0) (eInt))) (blkOk_by (by kernel_rfl)) (by decide) (fun _ _ _ _ _ => gN (i := 2) nd rfl (by first | exact Or.inl rfl | exact Or.inr rfl)) (fun _ _ _ _ _ => tsN) (fun _ _ _ _ _ => eCmp (oIn hu)
      (eV 1) (eV 2))) (aN)))) (aN)))))
theorem sc_are_stars : FnScope n_are_stars ["web"] (defScope s_are_stars) := ⟨rfl, rfl, rfl, by decide +kernel, rfl, by decide +kernel, by decide +kernel⟩
theorem c_are_stars (T : Txt K mg) (F : Fun K "are_stars" "are_stars" s_are_stars f fd) (hm : mg "are_stars" = some (.ref f)) (C_tied_to : Cal P w K mg base 1 "tied_to" m_tied_to) : Cal P w K mg base 2 "are_stars" m_are_stars := by
  have hb := (F.binds (ps := ["web"]) fun _ _ _ _ _ _ us hl => match us, hl with | [_], _ => rfl)
  have hc := @cal_mk P w K mg base "are_stars" "are_stars" s_are_stars f fd n_are_stars ["web"] 1 1 y_are_stars F sc_are_stars rfl hm hb
  refine hc fun cdv A outer s H E hr gd => ?_
  have nd := sc_are_stars.nd
  have hu := hu_room hr
  exact ssC (sSetR 1 nd rfl (by first | exact Or.inl rfl | exact Or.inr rfl) (eCal C_tied_to hr gd (by first | decide | omega) rfl (aC (eV 0) (aN)))) (ss1 (sRet (eB (bAll rfl) rfl T.b_all (by decide +kernel) (aC (eComp (own :=
      [("one", 2), ("other", 3)]) rfl nd (iS (eIx hu (eV 0) (eInt))) (blkOk_by (by kernel_rfl)) (by decide) (fun _ _ _ _ _ => gT rfl (gsC (gN (i := 2) nd rfl
      (by first | exact Or.inl rfl | exact Or.inr rfl)) (gsC (gN (i := 3) nd rfl (by first | exact Or.inl rfl | exact Or.inr rfl)) (gsN)))) (fun _ _ _ _ _ => tsN) (fun _ _ _ _ _ => eOr (eCmp (oEq hu) (eB bLen rfl T.b_len (by decide +kernel) (aC
      (eIx hu (eV 1) (eV 2)) (aN))) (eInt)) (eOne (eCmp (oEq hu) (eB bLen rfl T.b_len (by decide +kernel) (aC (eIx hu (eV 1) (eV 3)) (aN))) (eInt))))) (aN)))))
theorem sc_is_comb : FnScope n_is_comb ["web"] (defScope s_is_comb) := ⟨rfl, rfl, rfl, by decide +kernel, rfl, by decide +kernel, by decide +kernel⟩
theorem c_is_comb (T : Txt K mg) (F : Fun K "is_comb" "is_comb" s_is_comb f fd) (hm : mg "is_comb" = some (.ref f)) (C_tied_to : Cal P w K mg base 1 "tied_to" m_tied_to) (C_is_forest : Cal P w K mg base 4 "is_forest" m_is_forest) : Cal P w K mg base 5 "is_comb" m_is_comb := by
  have hb := (F.binds (ps := ["web"]) fun _ _ _ _ _ _ us hl => match us, hl with | [_], _ => rfl)
  have hc := @cal_mk P w K mg base "is_comb" "is_comb" s_is_comb f fd n_is_comb ["web"] 4 1 y_is_comb F sc_is_comb rfl hm hb
  refine hc fun cdv A outer s H E hr gd => ?_
  have nd := sc_is_comb.nd
  have hu := hu_room hr
  exact ssC (sSetR 1 nd rfl (by first | exact Or.inl rfl | exact Or.inr rfl) (eCal C_tied_to hr gd (by first | decide | omega) rfl (aC (eV 0) (aN)))) (ssC (sSetR 2 nd rfl (by first | exact Or.inl rfl | exact Or.inr rfl) (eT (bDict rfl) rfl T.b_dict (by decide +kernel)
      (aC (eComp (own := [("place", 3)]) rfl nd (iAn (eV 1)) (blkOk_by (by kernel_rfl)) (by decide) (fun _ _ _ _ _ => gN (i := 3) nd rfl (by first | exact Or.inl rfl | exact Or.inr rfl)) (fun _ _ _ _
      _ => tsN) (fun _ _ _ _ _ => eTup (aC (eV 3) (aC (eComp (own := [("one", 5)]) rfl nd (iS (eIx hu (eV 1) (eV 3))) (blkOk_by (by kernel_rfl)) (by decide)
      (fun _ _ _ _ _ => gN (i := 5) nd rfl (by first | exact Or.inl rfl | exact Or.inr rfl)) (fun _ _ _ _ _ => ts1 (bCmp (oGt hu) (eB bLen rfl T.b_len (by decide +kernel) (aC (eIx hu (eV 1) (eV 5)) (aN)))
      (eInt))) (fun _ _ _ _ _ => eV 5)) (aN))))) (aN)))) (ss1 (sRet (eAnd (eCal C_is_forest hr gd (by first | decide | omega) rfl (aC (eV 0) (aN))) (eOne (eB (bAll rfl) rfl T.b_all
      (by decide +kernel) (aC (eComp (own := [("some", 4)]) rfl nd (iVD (eV 2)) (blkOk_by (by kernel_rfl)) (by decide) (fun _ _ _ _ _ => gN (i := 4) nd rfl
      (by first | exact Or.inl rfl | exact Or.inr rfl)) (fun _ _ _ _ _ => tsN) (fun _ _ _ _ _ => eCmp (oLt hu) (eB bLen rfl T.b_len (by decide +kernel) (aC (eV 4) (aN))) (eInt))) (aN))))))))
theorem sc_parents : FnScope n_parents ["web"] (defScope s_parents) := ⟨rfl, rfl, rfl, by decide +kernel, rfl, by decide +kernel, by decide +kernel⟩
theorem c_parents (T : Txt K mg) (F : Fun K "parents" "parents" s_parents f fd) (hm : mg "parents" = some (.ref f)) (C_tied_to : Cal P w K mg base 1 "tied_to" m_tied_to) : Cal P w K mg base 2 "parents" m_parents := by
  have hb := (F.binds (ps := ["web"]) fun _ _ _ _ _ _ us hl => match us, hl with | [_], _ => rfl)
  have hc := @cal_mk P w K mg base "parents" "parents" s_parents f fd n_parents ["web"] 1 1 y_parents F sc_parents rfl hm hb
  refine hc fun cdv A outer s H E hr gd => ?_
  have nd := sc_parents.nd
  have hu := hu_room hr
  exact ssC (sSetR 1 nd rfl (by first | exact Or.inl rfl | exact Or.inr rfl) (eCal C_tied_to hr gd (by first | decide | omega) rfl (aC (eV 0) (aN)))) (ssC (sCellR 2 nd rfl (by first | exact Or.inl rfl | exact Or.inr rfl) (eDic0)) (ssC (sFor PassesOwn.never rfl (iS (eIx
      hu (eV 0) (eInt))) (gN (i := 3) nd rfl (by first | exact Or.inl rfl | exact Or.inr rfl)) (ssC (sIfR (bCmp (oIn hu) (eV 3) (eV 2)) (ss1 (sCont)) (ssN)) (ssC (sPutR hu (eV 2) (eV 3) (eTup (aC (eNon)
      (aC (eInt) (aN))))) (ssC (sCellR 4 nd rfl (by first | exact Or.inl rfl | exact Or.inr rfl) (eLst (aC (eV 3) (aN)))) (ss1 (sWhile 1000000 PassesOwn.never (bCmp (oNe hu) (eV 4) (eLst (aN))) (ssC
      (sSetR 5 nd rfl (by first | exact Or.inl rfl | exact Or.inr rfl) (eM PySem.F.plainAttrs_list PySem.F.slot_list_pop PySem.F.type_list_pop mPop (eV 4) (aC (eInt) (aN)))) (ss1 (sFor PassesOwn.never
      rfl (iS (eIx hu (eV 1) (eV 5))) (gN (i := 6) nd rfl (by first | exact Or.inl rfl | exact Or.inr rfl)) (ss1 (sIfR (bCmp (oNotIn hu) (eV 6) (eV 2)) (ssC (sPutR hu (eV 2) (eV 6) (eTup (aC (eV 5) (aC
      (eOp oAdd (eIx hu (eIx hu (eV 2) (eV 5)) (eInt)) (eInt)) (aN))))) (ss1 (sExpr (eM PySem.F.plainAttrs_list PySem.F.slot_list_append PySem.F.type_list_append
      mAppend (eV 4) (aC (eV 6) (aN)))))) (ssN)))))))))))) (ss1 (sRet (eV 2)))))
theorem sc_climbed : FnScope n_climbed ["come", "one", "other"] (defScope s_climbed) := ⟨rfl, rfl, rfl, by decide +kernel, rfl, by decide +kernel, by decide +kernel⟩
theorem c_climbed (T : Txt K mg) (F : Fun K "climbed" "climbed" s_climbed f fd) (hm : mg "climbed" = some (.ref f))  : Cal P w K mg base 1 "climbed" m_climbed := by
  have hb := (F.binds (ps := ["come", "one", "other"]) fun _ _ _ _ _ _ us hl => match us, hl with | [_, _, _], _ => rfl)
  have hc := @cal_mk P w K mg base "climbed" "climbed" s_climbed f fd n_climbed ["come", "one", "other"] 0 3 y_climbed F sc_climbed rfl hm hb
  refine hc fun cdv A outer s H E hr gd => ?_
  have nd := sc_climbed.nd
  have hu := hu_room hr
  exact ssC (sCellR 3 nd rfl (by first | exact Or.inl rfl | exact Or.inr rfl) (eLst (aN))) (ssC (sWhile 1000000 PassesOwn.never (bCmp (oNe hu) (eV 1) (eV 2)) (ssC (sIfR (bCmp (oLt hu) (eIx hu (eIx hu (eV
      0) (eV 1)) (eInt)) (eIx hu (eIx hu (eV 0) (eV 2)) (eInt))) (ss1 (sParC 1 2 rfl nd rfl rfl (by decide) rfl rfl (aVC (eV 2) (aVC (eV 1) (aNC))))) (ssN))
      (ssC (sExpr (eM PySem.F.plainAttrs_list PySem.F.slot_list_append PySem.F.type_list_append mAppend (eV 3) (aC (eV 1) (aN)))) (ss1 (sSetR 1 nd rfl (by first | exact Or.inl rfl | exact Or.inr rfl)
      (eIx hu (eIx hu (eV 0) (eV 1)) (eInt))))))) (ss1 (sRet (eV 3))))
theorem sc_has_lone_rings : FnScope n_has_lone_rings ["web"] (defScope s_has_lone_rings) := ⟨rfl, rfl, rfl, by decide +kernel, rfl, by decide +kernel, by decide +kernel⟩
theorem c_has_lone_rings (T : Txt K mg) (F : Fun K "has_lone_rings" "has_lone_rings" s_has_lone_rings f fd) (hm : mg "has_lone_rings" = some (.ref f)) (C_parents : Cal P w K mg base 2 "parents" m_parents) (C_climbed : Cal P w K mg base 1 "climbed" m_climbed) : Cal P w K mg base 3 "has_lone_rings" m_has_lone_rings := by
  have hb := (F.binds (ps := ["web"]) fun _ _ _ _ _ _ us hl => match us, hl with | [_], _ => rfl)
  have hc := @cal_mk P w K mg base "has_lone_rings" "has_lone_rings" s_has_lone_rings f fd n_has_lone_rings ["web"] 2 1 y_has_lone_rings F sc_has_lone_rings rfl hm hb
  refine hc fun cdv A outer s H E hr gd => ?_
  have nd := sc_has_lone_rings.nd
  have hu := hu_room hr
  exact ssC (sSetR 1 nd rfl (by first | exact Or.inl rfl | exact Or.inr rfl) (eCal C_parents hr gd (by first | decide | omega) rfl (aC (eV 0) (aN)))) (ssC (sCellR 2 nd rfl (by first | exact Or.inl rfl | exact Or.inr rfl) (eDic0)) (ssC (sFor PassesOwn.never rfl (iS (eIx
      hu (eV 0) (eInt))) (gT rfl (gsC (gN (i := 3) nd rfl (by first | exact Or.inl rfl | exact Or.inr rfl)) (gsC (gN (i := 4) nd rfl (by first | exact Or.inl rfl | exact Or.inr rfl)) (gsN)))) (ss1 (sIfR (bPw (wAnd (bCmp (oNe hu) (eIx hu (eIx
      hu (eV 1) (eV 3)) (eInt)) (eV 4)) (wAnd1 (bCmp (oNe hu) (eIx hu (eIx hu (eV 1) (eV 4)) (eInt)) (eV 3))))) (ss1 (sFor PassesOwn.never rfl (iS (eCal C_climbed
      hr gd (by first | decide | omega) rfl (aC (eV 1) (aC (eV 3) (aC (eV 4) (aN)))))) (gN (i := 5) nd rfl (by first | exact Or.inl rfl | exact Or.inr rfl)) (ssC (sIfR (bCmp (oIn hu) (eV 5) (eV 2)) (ss1 (sRet (eBl))) (ssN))
      (ss1 (sPutR hu (eV 2) (eV 5) (eBl)))))) (ssN)))) (ss1 (sRet (eBl)))))
theorem sc_tied_to__G : FnScope n_tied_to__G ["web"] (defScope s_tied_to__G) := ⟨rfl, rfl, rfl, by decide +kernel, rfl, by decide +kernel, by decide +kernel⟩
theorem c_tied_to__G (T : Txt K mg) (F : Fun K "tied_to" "tied_to" s_tied_to__G f fd) (hm : mg "tied_to" = some (.ref f))  : Cal P w K mg base 1 "tied_to" m_tied_to__G := by
  have hb := (F.binds (ps := ["web"]) fun _ _ _ _ _ _ us hl => match us, hl with | [_], _ => rfl)
  have hc := @cal_mk P w K mg base "tied_to" "tied_to" s_tied_to__G f fd n_tied_to__G ["web"] 0 1 y_tied_to__G F sc_tied_to__G rfl hm hb
  refine hc fun cdv A outer s H E hr gd => ?_
  have nd := sc_tied_to__G.nd
  have hu := hu_room hr
  exact ssC (sCellR 1 nd rfl (by first | exact Or.inl rfl | exact Or.inr rfl) (eDictL (own := [("place", 4)]) rfl nd rfl T.b_dict (iS (eIx hu (eV 0) (eInt))) (blkOk_by (by kernel_rfl)) (by decide) (fun _
      _ _ _ _ => gN (i := 4) nd rfl (by first | exact Or.inl rfl | exact Or.inr rfl)) (fun _ _ _ _ _ => pe_tup (pa_cons (eV 4) (pa_cons (pe_lst pa_nil) pa_nil))))) (ssC (sFor PassesOwn.never rfl (iS
      (eIx hu (eV 0) (eInt))) (gT rfl (gsC (gN (i := 2) nd rfl (by first | exact Or.inl rfl | exact Or.inr rfl)) (gsC (gN (i := 3) nd rfl (by first | exact Or.inl rfl | exact Or.inr rfl)) (gsN)))) (ssC (sExpr (eM PySem.F.plainAttrs_list PySem.F.slot_list_append
      PySem.F.type_list_append mAppend (eIxR hu (eV 1) (eV 2)) (aC (eV 3) (aN)))) (ss1 (sExpr (eM PySem.F.plainAttrs_list PySem.F.slot_list_append PySem.F.type_list_append
      mAppend (eIxR hu (eV 1) (eV 3)) (aC (eV 2) (aN))))))) (ss1 (sRet (eV 1))))
theorem sc_is_series : FnScope n_is_series ["web"] (defScope s_is_series) := ⟨rfl, rfl, rfl, by decide +kernel, rfl, by decide +kernel, by decide +kernel⟩
theorem c_is_series (T : Txt K mg) (F : Fun K "is_series" "is_series" s_is_series f fd) (hm : mg "is_series" = some (.ref f)) (C_tied_to__G : Cal P w K mg base 1 "tied_to" m_tied_to__G) : Cal P w K mg base 2 "is_series" m_is_series := by
  have hb := (F.binds (ps := ["web"]) fun _ _ _ _ _ _ us hl => match us, hl with | [_], _ => rfl)
  have hc := @cal_mk P w K mg base "is_series" "is_series" s_is_series f fd n_is_series ["web"] 1 1 y_is_series F sc_is_series rfl hm hb
  refine hc fun cdv A outer s H E hr gd => ?_
  have nd := sc_is_series.nd
  have hu := hu_room hr
  exact ssC (sCellR 1 nd rfl (by first | exact Or.inl rfl | exact Or.inr rfl) (eCal C_tied_to__G hr gd (by first | decide | omega) rfl (aC (eV 0) (aN)))) (ssC (sCellR 2 nd rfl (by first | exact Or.inl rfl | exact Or.inr rfl) (eT bList rfl T.b_list (by decide +kernel)
      (aC (eIx hu (eV 0) (eInt)) (aN)))) (ssC (sWhile 1000000 PassesOwn.never (bCmp (oNe hu) (eV 2) (eLst (aN))) (ssC (sSetR 3 nd rfl (by first | exact Or.inl rfl | exact Or.inr rfl) (eM0 PySem.F.plainAttrs_list
      PySem.F.slot_list_pop PySem.F.type_list_pop mPop (eV 2))) (ssC (sIfR (bPw (wOr (bCmp (oNotInR hu) (eV 3) (eV 1)) (wOr1 (bCmp (oGt hu) (eB bLen rfl T.b_len
      (by decide +kernel) (aC (eIxR hu (eV 1) (eV 3)) (aN))) (eInt))))) (ss1 (sCont)) (ssN)) (ssC (sSetR 4 nd rfl (by first | exact Or.inl rfl | exact Or.inr rfl) (eMR PySem.F.plainAttrs_dict PySem.F.slot_dict_pop
      PySem.F.type_dict_pop mPopR (eV 1) (aC (eV 3) (aN)))) (ssC (sFor PassesOwn.never rfl (iS (eV 4)) (gN (i := 5) nd rfl (by first | exact Or.inl rfl | exact Or.inr rfl)) (ss1 (sExpr (eM PySem.F.plainAttrs_list
      PySem.F.slot_list_remove PySem.F.type_list_remove mRemove (eIxR hu (eV 1) (eV 5)) (aC (eV 3) (aN)))))) (ssC (sIfR (bPw (wAnd (bCmp (oEq hu) (eB bLen rfl
      T.b_len (by decide +kernel) (aC (eV 4) (aN))) (eInt)) (wAnd1 (bCmp (oNotIn hu) (eIx hu (eV 4) (eInt)) (eIxR hu (eV 1) (eIx hu (eV 4) (eInt))))))) (ssC
      (sExpr (eM PySem.F.plainAttrs_list PySem.F.slot_list_append PySem.F.type_list_append mAppend (eIxR hu (eV 1) (eIx hu (eV 4) (eInt))) (aC (eIx hu (eV 4)
      (eInt)) (aN)))) (ss1 (sExpr (eM PySem.F.plainAttrs_list PySem.F.slot_list_append PySem.F.type_list_append mAppend (eIxR hu (eV 1) (eIx hu (eV 4) (eInt)))
      (aC (eIx hu (eV 4) (eInt)) (aN)))))) (ssN)) (ss1 (sExpr (eM PySem.F.plainAttrs_list PySem.F.slot_list_extend PySem.F.type_list_extend mExtend (eV 2) (aC
      (eV 4) (aN))))))))))) (ss1 (sRet (eCmp (oEqR hu) (eV 1) (eDic0))))))
theorem sc_is_kind : FnScope n_is_kind ["word", "web"] (defScope s_is_kind) := ⟨rfl, rfl, rfl, by decide +kernel, rfl, by decide +kernel, by decide +kernel⟩
theorem c_is_kind (T : Txt K mg) (F : Fun K "is_kind" "is_kind" s_is_kind f fd) (hm : mg "is_kind" = some (.ref f)) (C_most_ties : Cal P w K mg base 2 "most_ties" m_most_ties) (C_is_forest : Cal P w K mg base 4 "is_forest" m_is_forest) (C_has_hub : Cal P w K mg base 1 "has_hub" m_has_hub) (C_are_stars : Cal P w K mg base 2 "are_stars" m_are_stars) (C_is_comb : Cal P w K mg base 5 "is_comb" m_is_comb) (C_has_lone_rings : Cal P w K mg base 3 "has_lone_rings" m_has_lone_rings) (C_is_series : Cal P w K mg base 2 "is_series" m_is_series) : Cal P w K mg base 6 "is_kind" m_is_kind := by
  have hb := (F.binds (ps := ["word", "web"]) fun _ _ _ _ _ _ us hl => match us, hl with | [_, _], _ => rfl)
  have hc := @cal_mk P w K mg base "is_kind" "is_kind" s_is_kind f fd n_is_kind ["word", "web"] 5 2 y_is_kind F sc_is_kind rfl hm hb
  refine hc fun cdv A outer s H E hr gd => ?_
  have nd := sc_is_kind.nd
  have hu := hu_room hr
  exact ssC (sIfR (bCmp (oEq hu) (eV 0) (eStr)) (ss1 (sRet (eCmp (oEq hu) (eIx hu (eV 1) (eInt)) (eTup (aN))))) (ssN)) (ssC (sIfR (bCmp (oEq hu) (eV 0) (eStr))
      (ss1 (sRet (eCmp (oLt hu) (eCal C_most_ties hr gd (by first | decide | omega) rfl (aC (eV 1) (aN))) (eInt)))) (ssN)) (ssC (sIfR (bCmp (oEq hu) (eV 0) (eStr)) (ss1 (sRet (eCal
      C_has_hub hr gd (by first | decide | omega) rfl (aC (eV 1) (aN))))) (ssN)) (ssC (sIfR (bCmp (oEq hu) (eV 0) (eStr)) (ss1 (sRet (eCal C_are_stars hr gd (by first | decide | omega) rfl (aC (eV 1)
      (aN))))) (ssN)) (ssC (sIfR (bCmp (oEq hu) (eV 0) (eStr)) (ss1 (sRet (eAnd (eCal C_is_forest hr gd (by first | decide | omega) rfl (aC (eV 1) (aN))) (eOne (eCmp (oLt hu) (eCal
      C_most_ties hr gd (by first | decide | omega) rfl (aC (eV 1) (aN))) (eInt)))))) (ssN)) (ssC (sIfR (bCmp (oEq hu) (eV 0) (eStr)) (ss1 (sRet (eCal C_is_comb hr gd (by first | decide | omega) rfl (aC
      (eV 1) (aN))))) (ssN)) (ssC (sIfR (bCmp (oEq hu) (eV 0) (eStr)) (ss1 (sRet (eCal C_is_forest hr gd (by first | decide | omega) rfl (aC (eV 1) (aN))))) (ssN)) (ssC (sIfR (bCmp
      (oEq hu) (eV 0) (eStr)) (ss1 (sRet (eCal C_has_lone_rings hr gd (by first | decide | omega) rfl (aC (eV 1) (aN))))) (ssN)) (ss1 (sRet (eCal C_is_series hr gd (by first | decide | omega) rfl (aC
      (eV 1) (aN))))))))))))
theorem sc_l_pot : FnScope n_l_pot ["_law_script", "_law_k"] (defScope s_l_pot) := ⟨rfl, rfl, rfl, by decide +kernel, rfl, by decide +kernel, by decide +kernel⟩
theorem c_l_pot (T : Txt K mg) (F : Fun K "_law_pot" "_law_pot" s_l_pot f fd) (hm : mg "_law_pot" = some (.ref f))  : Cal P w K mg base 1 "_law_pot" m_l_pot := by
  have hb := (F.binds (ps := ["_law_script", "_law_k"]) fun _ _ _ _ _ _ us hl => match us, hl with | [_, _], _ => rfl)
  have hc := @cal_mk P w K mg base "_law_pot" "_law_pot" s_l_pot f fd n_l_pot ["_law_script", "_law_k"] 0 2 y_l_pot F sc_l_pot rfl hm hb
  refine hc fun cdv A outer s H E hr gd => ?_
  have nd := sc_l_pot.nd
  have hu := hu_room hr
  exact ssC (sSetR 2 nd rfl (by first | exact Or.inl rfl | exact Or.inr rfl) (eInt)) (ssC (sIfR (bCmp (oGt hu) (eB bLen rfl T.b_len (by decide +kernel) (aC (eV 0) (aN))) (eInt)) (ss1 (sSetR 2 nd rfl (by first | exact Or.inl rfl | exact Or.inr rfl)
      (eIx hu (eV 0) (eOp oMod (eV 1) (eB bLen rfl T.b_len (by decide +kernel) (aC (eV 0) (aN))))))) (ssN)) (ssC (sSetR 3 nd rfl (by first | exact Or.inl rfl | exact Or.inr rfl) (eInt)) (ssC (sFor PassesOwn.never
      rfl (iR1 rfl T.b_range (aC (eInt) (aN))) (gN (i := 4) nd rfl (by first | exact Or.inl rfl | exact Or.inr rfl)) (ss1 (sSetR 3 nd rfl (by first | exact Or.inl rfl | exact Or.inr rfl) (eOp oMul (eV 3) (eOp oPow (eInt) (eInt)))))) (ssC (sSetR
      5 nd rfl (by first | exact Or.inl rfl | exact Or.inr rfl) (eOp oMul (eOp oMod (eB bAbs rfl T.b_abs (by decide +kernel) (aC (eV 2) (aN))) (eV 3)) (eT bInt rfl T.b_int (by decide +kernel) (aC (eAnd
      (eCmp (oGe hu) (eB bAbs rfl T.b_abs (by decide +kernel) (aC (eV 2) (aN))) (eOp oPow (eInt) (eInt))) (eOne (eCmp (oLt hu) (eV 1) (eB bLen rfl T.b_len (by decide +kernel)
      (aC (eV 0) (aN)))))) (aN))))) (ss1 (sRet (eLst (aC (eV 5) (aC (eOp oMod (eOp oMul (eOp oAdd (eOp oAdd (eOp oMod (eV 2) (eInt)) (eOp oMul (eOp oMul (eInt)
      (eV 1)) (eV 1))) (eInt)) (eInt)) (eInt)) (aC (eInt) (aN)))))))))))
theorem sc_l_take : FnScope n_l_take ["_law_pot_here", "_law_many"] (defScope s_l_take) := ⟨rfl, rfl, rfl, by decide +kernel, rfl, by decide +kernel, by decide +kernel⟩
theorem c_l_take (T : Txt K mg) (F : Fun K "_law_take" "_law_take" s_l_take f fd) (hm : mg "_law_take" = some (.ref f))  : Cal P w K mg base 1 "_law_take" m_l_take := by
  have hb := (F.binds (ps := ["_law_pot_here", "_law_many"]) fun _ _ _ _ _ _ us hl => match us, hl with | [_, _], _ => rfl)
  have hc := @cal_mk P w K mg base "_law_take" "_law_take" s_l_take f fd n_l_take ["_law_pot_here", "_law_many"] 0 2 y_l_take F sc_l_take rfl hm hb
  refine hc fun cdv A outer s H E hr gd => ?_
  have nd := sc_l_take.nd
  have hu := hu_room hr
  exact ssC (sIfR (bCmp (oGt hu) (eIx hu (eV 0) (eInt)) (eInt)) (ssC (sSetR 2 nd rfl (by first | exact Or.inl rfl | exact Or.inr rfl) (eOp oMod (eIx hu (eV 0) (eInt)) (eV 1))) (ssC (sPutR hu (eV 0) (eInt)
      (eOp oDiv (eIx hu (eV 0) (eInt)) (eV 1))) (ss1 (sRet (eV 2))))) (ssN)) (ssC (sPutR hu (eV 0) (eInt) (eOp oAdd (eIx hu (eV 0) (eInt)) (eInt))) (ssC (sPutR
      hu (eV 0) (eInt) (eOp oMod (eOp oAdd (eOp oAdd (eOp oMul (eIx hu (eV 0) (eInt)) (eInt)) (eOp oMul (eInt) (eIx hu (eV 0) (eInt)))) (eInt)) (eInt))) (ss1
      (sRet (eOp oMod (eOp oDiv (eOp oMod (eOp oMul (eIx hu (eV 0) (eInt)) (eOp oAdd (eOp oMod (eIx hu (eV 0) (eInt)) (eInt)) (eInt))) (eInt)) (eInt)) (eV 1))))))
theorem sc_l_web : FnScope n_l_web ["_law_pot_here", "_law_many"] (defScope s_l_web) := ⟨rfl, rfl, rfl, by decide +kernel, rfl, by decide +kernel, by decide +kernel⟩
theorem c_l_web (T : Txt K mg) (F : Fun K "_law_web" "_law_web" s_l_web f fd) (hm : mg "_law_web" = some (.ref f)) (C_l_take : Cal P w K mg base 1 "_law_take" m_l_take) : Cal P w K mg base 2 "_law_web" m_l_web := by
  have hb := (F.binds (ps := ["_law_pot_here", "_law_many"]) fun _ _ _ _ _ _ us hl => match us, hl with | [_, _], _ => rfl)
  have hc := @cal_mk P w K mg base "_law_web" "_law_web" s_l_web f fd n_l_web ["_law_pot_here", "_law_many"] 1 2 y_l_web F sc_l_web rfl hm hb
  refine hc fun cdv A outer s H E hr gd => ?_
  have nd := sc_l_web.nd
  have hu := hu_room hr
  exact ssC (sMulR rfl (aVC (eCal C_l_take hr gd (by first | decide | omega) rfl (aC (eV 0) (aC (eInt) (aN)))) (aVC (eCal C_l_take hr gd (by first | decide | omega) rfl (aC (eV 0) (aC (eInt) (aN)))) (aCC
      (eLst (aN)) (aCC (eLst (aN)) (aNC))))) (gnC nd rfl (by first | exact Or.inl rfl | exact Or.inr rfl) (gnC nd rfl (by first | exact Or.inl rfl | exact Or.inr rfl) (gnC nd rfl (by first | exact Or.inl rfl | exact Or.inr rfl) (gnC nd rfl (by first | exact Or.inl rfl | exact Or.inr rfl) (gnN)))))) (ssC (sFor PassesOwn.never rfl
      (iR1 rfl T.b_range (aC (eV 1) (aN))) (gN (i := 2) nd rfl (by first | exact Or.inl rfl | exact Or.inr rfl)) (ssC (sExpr (eM PySem.F.plainAttrs_list PySem.F.slot_list_append PySem.F.type_list_append
      mAppend (eV 6) (aC (eV 5) (aN)))) (ss1 (sSetR 5 nd rfl (by first | exact Or.inl rfl | exact Or.inr rfl) (eOp oAdd (eOp oAdd (eV 5) (eInt)) (eIx hu (eLst (aC (eInt) (aC (eCal C_l_take hr gd (by first | decide | omega)
      rfl (aC (eV 0) (aC (eInt) (aN)))) (aC (eInt) (aN))))) (eCal C_l_take hr gd (by first | decide | omega) rfl (aC (eV 0) (aC (eInt) (aN)))))))))) (ssC (sFor PassesOwn.never rfl
      (iR1 rfl T.b_range (aC (eV 1) (aN))) (gN (i := 3) nd rfl (by first | exact Or.inl rfl | exact Or.inr rfl)) (ss1 (sFor PassesOwn.never rfl (iR1 rfl T.b_range (aC (eV 3) (aN))) (gN (i := 8) nd rfl
      (by first | exact Or.inl rfl | exact Or.inr rfl)) (ssC (sSetR 9 nd rfl (by first | exact Or.inl rfl | exact Or.inr rfl) (eIx hu (eLst (aC (eCmp (oEq hu) (eV 3) (eOp oAdd (eV 8) (eInt))) (aC (eOr (eCmp (oEq hu) (eV 3) (eOp oAdd (eV 8) (eInt)))
      (eOne (eCmp (oEq hu) (eTup (aC (eV 8) (aC (eV 3) (aN)))) (eTup (aC (eInt) (aC (eOp oSub (eV 1) (eInt)) (aN))))))) (aC (eCmp (oEq hu) (eV 8) (eInt)) (aC
      (eBl) (aC (eBl) (aC (eCmp (oLt hu) (eV 3) (eOp oAdd (eV 8) (eInt))) (aN)))))))) (eV 4))) (ss1 (sIfR (bCmp (oNe hu) (eV 9) (eCmp (oEq hu) (eCal C_l_take
      hr gd (by first | decide | omega) rfl (aC (eV 0) (aC (eIx hu (eLst (aC (eInt) (aC (eInt) (aC (eInt) (aC (eInt) (aC (eInt) (aC (eInt) (aN)))))))) (eV 4)) (aN)))) (eInt))) (ss1
      (sExpr (eM PySem.F.plainAttrs_list PySem.F.slot_list_append PySem.F.type_list_append mAppend (eV 7) (aC (eTup (aC (eIx hu (eV 6) (eV 8)) (aC (eIx hu (eV
      6) (eV 3)) (aN)))) (aN))))) (ssN))))))) (ss1 (sRet (eTup (aC (eT bTuple rfl T.b_tuple (by decide +kernel) (aC (eV 6) (aN))) (aC (eT bTuple rfl T.b_tuple
      (by decide +kernel) (aC (eSl (eB (bSorted hu) rfl T.b_sorted (by decide +kernel) (aC (eV 7) (aN))) (poN) (poS (eInt))) (aN))) (aN))))))))
theorem sc_has_more : FnScope n_has_more ["web", "told"] (defScope s_has_more) := ⟨rfl, rfl, rfl, by decide +kernel, rfl, by decide +kernel, by decide +kernel⟩
theorem c_has_more (T : Txt K mg) (F : Fun K "has_more" "has_more" s_has_more f fd) (hm : mg "has_more" = some (.ref f))  : Cal P w K mg base 1 "has_more" m_has_more := by
  have hb := (F.binds (ps := ["web", "told"]) fun _ _ _ _ _ _ us hl => match us, hl with | [_, _], _ => rfl)
  have hc := @cal_mk P w K mg base "has_more" "has_more" s_has_more f fd n_has_more ["web", "told"] 0 2 y_has_more F sc_has_more rfl hm hb
  refine hc fun cdv A outer s H E hr gd => ?_
  have nd := sc_has_more.nd
  have hu := hu_room hr
  exact ss1 (sRet (eOr (eCmp (oGt hu) (eB bLen rfl T.b_len (by decide +kernel) (aC (eIx hu (eV 1) (eInt)) (aN))) (eB bLen rfl T.b_len (by decide +kernel) (aC (eIx
      hu (eV 0) (eInt)) (aN)))) (eOne (eCmp (oGt hu) (eB bLen rfl T.b_len (by decide +kernel) (aC (eIx hu (eV 1) (eInt)) (aN))) (eB bLen rfl T.b_len (by decide +kernel)
      (aC (eIx hu (eV 0) (eInt)) (aN)))))))
theorem c_bars_wall (T : Txt K mg) (F : Fun K "bars_wall" "bars_wall" s_bars_wall f fd) (hm : mg "bars_wall" = some (.ref f)) : Cal P w K mg base 1 "bars_wall" m_bars_wall := cal_no F hm (F.binds (ps := ["web", "told", "wall", "papers"]) fun _ _ _ _ _ _ us hl => match us, hl with | [_, _, _, _], _ => rfl)
theorem c_shows_book (T : Txt K mg) (F : Fun K "shows_book" "shows_book" s_shows_book f fd) (hm : mg "shows_book" = some (.ref f)) : Cal P w K mg base 1 "shows_book" m_shows_book := cal_no F hm (F.binds (ps := ["web", "told", "what", "below", "thing"]) fun _ _ _ _ _ _ us hl => match us, hl with | [_, _, _, _, _], _ => rfl)
theorem sc_kinds : FnScope n_kinds ["web"] (defScope s_kinds) := ⟨rfl, rfl, rfl, by decide +kernel, rfl, by decide +kernel, by decide +kernel⟩
theorem c_kinds (T : Txt K mg) (F : Fun K "kinds" "kinds" s_kinds f fd) (hm : mg "kinds" = some (.ref f)) (C_is_kind : Cal P w K mg base 6 "is_kind" m_is_kind) : Cal P w K mg base 7 "kinds" m_kinds := by
  have hb := (F.binds (ps := ["web"]) fun _ _ _ _ _ _ us hl => match us, hl with | [_], _ => rfl)
  have hc := @cal_mk P w K mg base "kinds" "kinds" s_kinds f fd n_kinds ["web"] 6 1 y_kinds F sc_kinds rfl hm hb
  refine hc fun cdv A outer s H E hr gd => ?_
  have nd := sc_kinds.nd
  have hu := hu_room hr
  exact ss1 (sRet (eT bTuple rfl T.b_tuple (by decide +kernel) (aC (eComp (own := [("word", 1)]) rfl nd (iS (eCstT [(Str.ofString "bare"), (Str.ofString "pairs"),
      (Str.ofString "hub"), (Str.ofString "stars"), (Str.ofString "rows"), (Str.ofString "combs"), (Str.ofString "forest"), (Str.ofString "rings"), (Str.ofString
      "series")] rfl T.k_WORDS)) (blkOk_by (by kernel_rfl)) (by decide) (fun _ _ _ _ _ => gN (i := 1) nd rfl (by first | exact Or.inl rfl | exact Or.inr rfl)) (fun _ _ _ _ _ => ts1 (bVal (eCal C_is_kind
      hr gd (by first | decide | omega) rfl (aC (eV 1) (aC (eV 0) (aN)))))) (fun _ _ _ _ _ => eV 1)) (aN))))
theorem c_least_width (T : Txt K mg) (F : Fun K "least_width" "least_width" s_least_width f fd) (hm : mg "least_width" = some (.ref f)) : Cal P w K mg base 1 "least_width" m_least_width := cal_no F hm (F.binds (ps := ["web"]) fun _ _ _ _ _ _ us hl => match us, hl with | [_], _ => rfl)
theorem c_least_spread (T : Txt K mg) (F : Fun K "least_spread" "least_spread" s_least_spread f fd) (hm : mg "least_spread" = some (.ref f)) : Cal P w K mg base 1 "least_spread" m_least_spread := cal_no F hm (F.binds (ps := ["web"]) fun _ _ _ _ _ _ us hl => match us, hl with | [_], _ => rfl)
theorem c_width (T : Txt K mg) (F : Fun K "width" "width" s_width f fd) (hm : mg "width" = some (.ref f)) : Cal P w K mg base 1 "width" m_width := cal_no F hm (F.binds (ps := ["web", "order"]) fun _ _ _ _ _ _ us hl => match us, hl with | [_, _], _ => rfl)
theorem c_spread (T : Txt K mg) (F : Fun K "spread" "spread" s_spread f fd) (hm : mg "spread" = some (.ref f)) : Cal P w K mg base 1 "spread" m_spread := cal_no F hm (F.binds (ps := ["web", "order"]) fun _ _ _ _ _ _ us hl => match us, hl with | [_, _], _ => rfl)
theorem c_is_order (T : Txt K mg) (F : Fun K "is_order" "is_order" s_is_order f fd) (hm : mg "is_order" = some (.ref f)) : Cal P w K mg base 1 "is_order" m_is_order := cal_no F hm (F.binds (ps := ["web", "thing"]) fun _ _ _ _ _ _ us hl => match us, hl with | [_, _], _ => rfl)
theorem sc_bars_by : FnScope n_bars_by ["web", "told", "word", "thing"] (defScope s_bars_by) := ⟨rfl, rfl, rfl, by decide +kernel, rfl, by decide +kernel, by decide +kernel⟩
theorem c_bars_by (T : Txt K mg) (F : Fun K "bars_by" "bars_by" s_bars_by f fd) (hm : mg "bars_by" = some (.ref f)) (C_shows_book : Cal P w K mg base 1 "shows_book" m_shows_book) (C_kinds : Cal P w K mg base 7 "kinds" m_kinds) (C_least_width : Cal P w K mg base 1 "least_width" m_least_width) (C_least_spread : Cal P w K mg base 1 "least_spread" m_least_spread) (C_width : Cal P w K mg base 1 "width" m_width) (C_spread : Cal P w K mg base 1 "spread" m_spread) (C_is_order : Cal P w K mg base 1 "is_order" m_is_order) : Cal P w K mg base 8 "bars_by" m_bars_by := by
  have hb := (F.binds (ps := ["web", "told", "word", "thing"]) fun _ _ _ _ _ _ us hl => match us, hl with | [_, _, _, _], _ => rfl)
  have hc := @cal_mk P w K mg base "bars_by" "bars_by" s_bars_by f fd n_bars_by ["web", "told", "word", "thing"] 7 4 y_bars_by F sc_bars_by rfl hm hb
  refine hc fun cdv A outer s H E hr gd => ?_
  have nd := sc_bars_by.nd
  have hu := hu_room hr
  exact ssC (sIfR (bCmp (oEq hu) (eV 2) (eStr)) (ss1 (sRet (eAnd (eIsi (T := "str") (by simp) rfl T.b_isinstance rfl T.b_str (by decide +kernel) (eV 3)) (eAnd (eCmp
      (oIn hu) (eV 3) (eCal C_kinds hr gd (by first | decide | omega) rfl (aC (eV 0) (aN)))) (eOne (eCmp (oNotIn hu) (eV 3) (eCal C_kinds hr gd (by first | decide | omega) rfl (aC (eV 1) (aN)))))))))
      (ssN)) (ssC (sIfR (bCmp (oEq hu) (eV 2) (eStr)) (ss1 (sRet (eAnd (eCal C_is_order hr gd (by first | decide | omega) rfl (aC (eV 0) (aC (eV 3) (aN)))) (eOne (eCmp (oLt hu) (eCal
      C_width hr gd (by first | decide | omega) rfl (aC (eV 0) (aC (eV 3) (aN)))) (eIx hu (eCal C_least_width hr gd (by first | decide | omega) rfl (aC (eV 1) (aN))) (eInt))))))) (ssN)) (ssC (sIfR (bCmp
      (oEq hu) (eV 2) (eStr)) (ss1 (sRet (eAnd (eCal C_is_order hr gd (by first | decide | omega) rfl (aC (eV 0) (aC (eV 3) (aN)))) (eOne (eCmp (oLt hu) (eCal C_spread hr gd (by first | decide | omega)
      rfl (aC (eV 0) (aC (eV 3) (aN)))) (eIx hu (eCal C_least_spread hr gd (by first | decide | omega) rfl (aC (eV 1) (aN))) (eInt))))))) (ssN)) (ssC (sIfR (bCmp (oEq hu) (eV 2)
      (eStr)) (ss1 (sRet (eAnd (eCmp (oLe hu) (eB bLen rfl T.b_len (by decide +kernel) (aC (eIx hu (eV 0) (eInt)) (aN))) (eCstI rfl T.k_MOST_BOOK)) (eOne (eCal
      C_shows_book hr gd (by first | decide | omega) rfl (aC (eV 0) (aC (eV 1) (aC (eStr) (aC (eNon) (aC (eV 3) (aN))))))))))) (ssN)) (ss1 (sRet (eBl))))))
theorem sc_shows_barred : FnScope n_shows_barred ["web", "told", "thing"] (defScope s_shows_barred) := ⟨rfl, rfl, rfl, by decide +kernel, rfl, by decide +kernel, by decide +kernel⟩
theorem c_shows_barred (T : Txt K mg) (F : Fun K "shows_barred" "shows_barred" s_shows_barred f fd) (hm : mg "shows_barred" = some (.ref f)) (C_has_more : Cal P w K mg base 1 "has_more" m_has_more) (C_bars_wall : Cal P w K mg base 1 "bars_wall" m_bars_wall) (C_bars_by : Cal P w K mg base 8 "bars_by" m_bars_by) : Cal P w K mg base 9 "shows_barred" m_shows_barred := by
  have hb := (F.binds (ps := ["web", "told", "thing"]) fun _ _ _ _ _ _ us hl => match us, hl with | [_, _, _], _ => rfl)
  have hc := @cal_mk P w K mg base "shows_barred" "shows_barred" s_shows_barred f fd n_shows_barred ["web", "told", "thing"] 8 3 y_shows_barred F sc_shows_barred rfl hm hb
  refine hc fun cdv A outer s H E hr gd => ?_
  have nd := sc_shows_barred.nd
  have hu := hu_room hr
  exact ssC (sIfR (bPw (wOr (bNo (bVal (eIsi (T := "tuple") (by simp) rfl T.b_isinstance rfl T.b_tuple (by decide +kernel) (eV 2)))) (wOr (bCmp (oEq hu) (eB bLen
      rfl T.b_len (by decide +kernel) (aC (eV 2) (aN))) (eInt)) (wOr1 (bNo (bVal (eIsi (T := "str") (by simp) rfl T.b_isinstance rfl T.b_str (by decide +kernel)
      (eIx hu (eV 2) (eInt))))))))) (ss1 (sRet (eBl))) (ssN)) (ssC (sIfR (bCmp (oEq hu) (eB bLen rfl T.b_len (by decide +kernel) (aC (eV 2) (aN))) (eInt)) (ss1
      (sRet (eAnd (eCmp (oEq hu) (eIx hu (eV 2) (eInt)) (eStr)) (eOne (eCal C_has_more hr gd (by first | decide | omega) rfl (aC (eV 0) (aC (eV 1) (aN)))))))) (ssN)) (ssC (sIfR (bCmp
      (oEq hu) (eB bLen rfl T.b_len (by decide +kernel) (aC (eV 2) (aN))) (eInt)) (ss1 (sRet (eCal C_bars_by hr gd (by first | decide | omega) rfl (aC (eV 0) (aC (eV 1) (aC (eIx
      hu (eV 2) (eInt)) (aC (eIx hu (eV 2) (eInt)) (aN)))))))) (ssN)) (ss1 (sRet (eAnd (eCmp (oEq hu) (eB bLen rfl T.b_len (by decide +kernel) (aC (eV 2) (aN)))
      (eInt)) (eAnd (eCmp (oEq hu) (eIx hu (eV 2) (eInt)) (eStr)) (eOne (eCal C_bars_wall hr gd (by first | decide | omega) rfl (aC (eV 0) (aC (eV 1) (aC (eIx hu (eV 2) (eInt)) (aC
      (eIx hu (eV 2) (eInt)) (aN)))))))))))))
theorem sc_l_right : FnScope n_l_right ["_law_web_here", "_law_told", "_law_thing", "_law_due"] (defScope s_l_right) := ⟨rfl, rfl, rfl, by decide +kernel, rfl, by decide +kernel, by decide +kernel⟩
theorem c_l_right (T : Txt K mg) (F : Fun K "_law_right" "_law_right" s_l_right f fd) (hm : mg "_law_right" = some (.ref f)) (C_shows_barred : Cal P w K mg base 9 "shows_barred" m_shows_barred) : Cal P w K mg base 10 "_law_right" m_l_right := by
  have hb := (F.binds (ps := ["_law_web_here", "_law_told", "_law_thing", "_law_due"]) fun _ _ _ _ _ _ us hl => match us, hl with | [_, _, _, _], _ => rfl)
  have hc := @cal_mk P w K mg base "_law_right" "_law_right" s_l_right f fd n_l_right ["_law_web_here", "_law_told", "_law_thing", "_law_due"] 9 4 y_l_right F sc_l_right rfl hm hb
  refine hc fun cdv A outer s H E hr gd => ?_
  have nd := sc_l_right.nd
  have hu := hu_room hr
  exact ssC (sSetR 4 nd rfl (by first | exact Or.inl rfl | exact Or.inr rfl) (eCal C_shows_barred hr gd (by first | decide | omega) rfl (aC (eV 0) (aC (eV 1) (aC (eV 2) (aN)))))) (ss1 (sRet (eAnd (eIsi (T := "bool") (by simp)
      rfl T.b_isinstance rfl T.b_bool (by decide +kernel) (eV 4)) (eOne (eCmp (oEq hu) (eV 4) (eV 3))))))
theorem sc_law : FnScope n_law ["_law_script"] (defScope s_law) := ⟨rfl, rfl, rfl, by decide +kernel, rfl, by decide +kernel, by decide +kernel⟩

theorem o_law (T : Txt K mg) (F : Fun K "law" "law" s_law f fd) (C_is_kind : Cal P w K mg base 6 "is_kind" m_is_kind) (C_l_pot : Cal P w K mg base 1 "_law_pot" m_l_pot) (C_l_take : Cal P w K mg base 1 "_law_take" m_l_take) (C_l_web : Cal P w K mg base 2 "_law_web" m_l_web) (C_l_right : Cal P w K mg base 10 "_law_right" m_l_right) : FnG P w K mg base 11 f fd ["_law_script"] (spF K m_law) := by
  have hc := @fn_ok K P w mg base "law" "law" s_law f fd n_law ["_law_script"] 10 1 y_law F sc_law rfl
  refine hc fun cdv A outer s H E hr gd => ?_
  have nd := sc_law.nd
  have hu := hu_room hr
  exact ssC (sSetR 1 nd rfl (by first | exact Or.inl rfl | exact Or.inr rfl) (eLst (aC (eStr) (aC (eStr) (aC (eStr) (aC (eStr) (aC (eStr) (aC (eStr) (aC (eStr) (aC (eStr) (aC (eStr) (aN)))))))))))) (ssC
      (sFor PassesOwn.never rfl (iR1 rfl T.b_range (aC (eOp oAdd (eB bLen rfl T.b_len (by decide +kernel) (aC (eSl (eV 0) (poN) (poS (eInt))) (aN))) (eInt))
      (aN))) (gN (i := 2) nd rfl (by first | exact Or.inl rfl | exact Or.inr rfl)) (ssC (sCellR 3 nd rfl (by first | exact Or.inl rfl | exact Or.inr rfl) (eCal C_l_pot hr gd (by first | decide | omega) rfl (aC (eV 0) (aC (eV 2) (aN))))) (ssC (sSetR 4 nd rfl (by first | exact Or.inl rfl | exact Or.inr rfl)
      (eIx hu (eLst (aC (eInt) (aC (eInt) (aN)))) (eOp oDiv (eCal C_l_take hr gd (by first | decide | omega) rfl (aC (eV 3) (aC (eInt) (aN)))) (eInt)))) (ssC (sMulR rfl (aVC (eCal
      C_l_web hr gd (by first | decide | omega) rfl (aC (eV 3) (aC (eCal C_l_take hr gd (by first | decide | omega) rfl (aC (eV 3) (aC (eV 4) (aN)))) (aN)))) (aVC (eCal C_l_web hr gd (by first | decide | omega) rfl (aC (eV
      3) (aC (eOp oAdd (eInt) (eCal C_l_take hr gd (by first | decide | omega) rfl (aC (eV 3) (aC (eInt) (aN))))) (aN)))) (aNC))) (gnC nd rfl (by first | exact Or.inl rfl | exact Or.inr rfl) (gnC nd rfl (by first | exact Or.inl rfl | exact Or.inr rfl) (gnN)))) (ssC
      (sSetR 5 nd rfl (by first | exact Or.inl rfl | exact Or.inr rfl) (eOr (eCmp (oGt hu) (eB bLen rfl T.b_len (by decide +kernel) (aC (eIx hu (eV 9) (eInt)) (aN))) (eB bLen rfl T.b_len (by decide +kernel)
      (aC (eIx hu (eV 8) (eInt)) (aN)))) (eOne (eCmp (oGt hu) (eB bLen rfl T.b_len (by decide +kernel) (aC (eIx hu (eV 9) (eInt)) (aN))) (eB bLen rfl T.b_len
      (by decide +kernel) (aC (eIx hu (eV 8) (eInt)) (aN))))))) (ssC (sIfR (bNo (bVal (eCal C_l_right hr gd (by first | decide | omega) rfl (aC (eV 8) (aC (eV 9) (aC (eTup (aC (eStr)
      (aN))) (aC (eV 5) (aN)))))))) (ss1 (sRet (eBl))) (ssN)) (ssC (sFor PassesOwn.never rfl (iS (eV 1)) (gN (i := 6) nd rfl (by first | exact Or.inl rfl | exact Or.inr rfl)) (ssC (sSetR 5 nd rfl (by first | exact Or.inl rfl | exact Or.inr rfl)
      (eAnd (eCal C_is_kind hr gd (by first | decide | omega) rfl (aC (eV 6) (aC (eV 8) (aN)))) (eOne (eNot (eCal C_is_kind hr gd (by first | decide | omega) rfl (aC (eV 6) (aC (eV 9) (aN)))))))) (ssC
      (sIfR (bNo (bVal (eCal C_l_right hr gd (by first | decide | omega) rfl (aC (eV 8) (aC (eV 9) (aC (eTup (aC (eStr) (aC (eV 6) (aN)))) (aC (eV 5) (aN)))))))) (ss1 (sRet (eBl)))
      (ssN)) (ss1 (sFor PassesOwn.never rfl (iS (eLst (aC (eTup (aC (eStr) (aC (eV 6) (aC (eV 6) (aN))))) (aC (eTup (aC (eV 6) (aN))) (aC (eTup (aC (eStr) (aC
      (eTup (aC (eV 6) (aN))) (aN)))) (aC (eTup (aC (eStr) (aC (eV 6) (aN)))) (aC (eLst (aC (eStr) (aC (eV 6) (aN)))) (aN)))))))) (gN (i := 10) nd rfl (by first | exact Or.inl rfl | exact Or.inr rfl))
      (ss1 (sIfR (bNo (bVal (eCal C_l_right hr gd (by first | decide | omega) rfl (aC (eV 8) (aC (eV 9) (aC (eV 10) (aC (eBl) (aN)))))))) (ss1 (sRet (eBl))) (ssN)))))))) (ssC (sSetR
      7 nd rfl (by first | exact Or.inl rfl | exact Or.inr rfl) (eLst (aC (eTup (aC (eStr) (aC (eTup (aN)) (aN)))) (aC (eTup (aC (eStr) (aC (eNon) (aN)))) (aC (eLst (aC (eStr) (aN))) (aC (eStr) (aC (eTup
      (aC (eStr) (aN))) (aC (eTup (aC (eStr) (aN))) (aC (eTup (aC (eStr) (aC (eStr) (aN)))) (aC (eTup (aC (eStr) (aC (eNon) (aN)))) (aN))))))))))) (ssC (sSetR
      7 nd rfl (by first | exact Or.inl rfl | exact Or.inr rfl) (eOp oAdd (eV 7) (eLst (aC (eTup (aC (eStr) (aC (eStr) (aN)))) (aC (eTup (aC (eStr) (aC (eInt) (aN)))) (aC (eTup (aC (eStr) (aC (eBl) (aN))))
      (aC (eTup (aC (eStr) (aC (eV 1) (aN)))) (aC (eTup (aC (eStr) (aC (eT bTuple rfl T.b_tuple (by decide +kernel) (aC (eV 1) (aN))) (aN)))) (aC (eTup (aN))
      (aN)))))))))) (ss1 (sIfR (bNo (bVal (eB (bAll rfl) rfl T.b_all (by decide +kernel) (aC (eComp (own := [("_law_thing", 10)]) rfl nd (iS (eV 7)) (blkOk_by
      (by kernel_rfl)) (by decide) (fun _ _ _ _ _ => gN (i := 10) nd rfl (by first | exact Or.inl rfl | exact Or.inr rfl)) (fun _ _ _ _ _ => tsN) (fun _ _ _ _ _ => eCal C_l_right hr gd (by first | decide | omega) rfl (aC
      (eV 8) (aC (eV 9) (aC (eV 10) (aC (eBl) (aN))))))) (aN))))) (ss1 (sRet (eBl))) (ssN)))))))))))) (ss1 (sRet (eBl))))
end
end Z
set_option Elab.async false
set_option linter.all false
set_option maxRecDepth 100000
namespace Z
open PySem PySem.Spec PyProof.Rows L2 MV
theorem all_mk {l : PySem.W.OpenLaw} {w : World} {K : PySem.W.Frag} {h : Heap} {mg : Str → Option Value} {fa f_tied_to f_most_ties f_near f_piece_of f_pieces f_is_forest f_has_hub f_are_stars f_is_comb f_parents f_climbed f_has_lone_rings f_tied_to__G f_is_series f_is_kind f_l_pot f_l_take f_l_web f_has_more f_bars_wall f_shows_book f_kinds f_least_width f_least_spread f_width f_spread f_is_order f_bars_by f_shows_barred f_l_right f_law : Addr} (X : K.In h) (G : h.Ns mainGlobals mg) (hfa : mg "law" = some (.ref fa))
    {cl_Errand : Addr}
    (gl_Errand : PySem.W.nsIn K mainGlobals "Errand" = some (some (.ref cl_Errand)))
    (pg_Errand : PySem.W.plainGet K cl_Errand Str.empty = true)
    (hd_Errand : PySem.W.hasDictIn K cl_Errand = true)
    (po_Errand : PySem.W.plainOver K cl_Errand = true)
    (sa_Errand : PySem.W.findIn K (.ref cl_Errand) "__setattr__" = some (some (.builtin "object.__setattr__")))
    (mk_Errand : PySem.W.makesIn K cl_Errand = true)
    (kc_Errand : PySem.W.keepIn K (.ref cl_Errand) = true)
    (n_Errand_below : PySem.W.findIn K (.ref cl_Errand) "below" = some none)
    (n_Errand_near : PySem.W.findIn K (.ref cl_Errand) "near" = some none)
    (n_Errand_places : PySem.W.findIn K (.ref cl_Errand) "places" = some none)
    (n_Errand_tied : PySem.W.findIn K (.ref cl_Errand) "tied" = some none)
    (n_Errand_twins : PySem.W.findIn K (.ref cl_Errand) "twins" = some none)
    (n_Errand_wanted : PySem.W.findIn K (.ref cl_Errand) "wanted" = some none)
    (n_Errand_what : PySem.W.findIn K (.ref cl_Errand) "what" = some none)
    {cl_Half : Addr}
    (gl_Half : PySem.W.nsIn K mainGlobals "Half" = some (some (.ref cl_Half)))
    (pg_Half : PySem.W.plainGet K cl_Half Str.empty = true)
    (hd_Half : PySem.W.hasDictIn K cl_Half = true)
    (po_Half : PySem.W.plainOver K cl_Half = true)
    (sa_Half : PySem.W.findIn K (.ref cl_Half) "__setattr__" = some (some (.builtin "object.__setattr__")))
    (mk_Half : PySem.W.makesIn K cl_Half = true)
    (kc_Half : PySem.W.keepIn K (.ref cl_Half) = true)
    (n_Half_free : PySem.W.findIn K (.ref cl_Half) "free" = some none)
    (n_Half_lots : PySem.W.findIn K (.ref cl_Half) "lots" = some none)
    {od_tied_to an_tied_to : Option Addr} {sl_tied_to : Array (Option Value)} {oc_tied_to kV_tied_to dc_tied_to pm_tied_to cd_tied_to ct_tied_to : Value}
    (a_tied_to : PySem.W.nsIn K mainGlobals "tied_to" = some (some (.ref f_tied_to))) (l_tied_to : K.lookup f_tied_to = some ⟨oc_tied_to, od_tied_to, .func (PySem.W.fnOf "tied_to" "tied_to" (defArgs s_tied_to) (defBody s_tied_to) (defScope s_tied_to) .none kV_tied_to dc_tied_to pm_tied_to an_tied_to cd_tied_to ct_tied_to), sl_tied_to⟩) (h_tied_to : PySem.W.codeIn K cd_tied_to "tied_to" = true) (k_tied_to : PySem.W.keepIn K (.ref f_tied_to) = true)
    {od_most_ties an_most_ties : Option Addr} {sl_most_ties : Array (Option Value)} {oc_most_ties kV_most_ties dc_most_ties pm_most_ties cd_most_ties ct_most_ties : Value}
    (a_most_ties : PySem.W.nsIn K mainGlobals "most_ties" = some (some (.ref f_most_ties))) (l_most_ties : K.lookup f_most_ties = some ⟨oc_most_ties, od_most_ties, .func (PySem.W.fnOf "most_ties" "most_ties" (defArgs s_most_ties) (defBody s_most_ties) (defScope s_most_ties) .none kV_most_ties dc_most_ties pm_most_ties an_most_ties cd_most_ties ct_most_ties), sl_most_ties⟩) (h_most_ties : PySem.W.codeIn K cd_most_ties "most_ties" = true) (k_most_ties : PySem.W.keepIn K (.ref f_most_ties) = true)
    {od_near an_near : Option Addr} {sl_near : Array (Option Value)} {oc_near kV_near dc_near pm_near cd_near ct_near : Value}
    (a_near : PySem.W.nsIn K mainGlobals "near" = some (some (.ref f_near))) (l_near : K.lookup f_near = some ⟨oc_near, od_near, .func (PySem.W.fnOf "near" "near" (defArgs s_near) (defBody s_near) (defScope s_near) .none kV_near dc_near pm_near an_near cd_near ct_near), sl_near⟩) (h_near : PySem.W.codeIn K cd_near "near" = true) (k_near : PySem.W.keepIn K (.ref f_near) = true)
    {od_piece_of an_piece_of : Option Addr} {sl_piece_of : Array (Option Value)} {oc_piece_of kV_piece_of dc_piece_of pm_piece_of cd_piece_of ct_piece_of : Value}
    (a_piece_of : PySem.W.nsIn K mainGlobals "piece_of" = some (some (.ref f_piece_of))) (l_piece_of : K.lookup f_piece_of = some ⟨oc_piece_of, od_piece_of, .func (PySem.W.fnOf "piece_of" "piece_of" (defArgs s_piece_of) (defBody s_piece_of) (defScope s_piece_of) .none kV_piece_of dc_piece_of pm_piece_of an_piece_of cd_piece_of ct_piece_of), sl_piece_of⟩) (h_piece_of : PySem.W.codeIn K cd_piece_of "piece_of" = true) (k_piece_of : PySem.W.keepIn K (.ref f_piece_of) = true)
    {od_pieces an_pieces : Option Addr} {sl_pieces : Array (Option Value)} {oc_pieces kV_pieces dc_pieces pm_pieces cd_pieces ct_pieces : Value}
    (a_pieces : PySem.W.nsIn K mainGlobals "pieces" = some (some (.ref f_pieces))) (l_pieces : K.lookup f_pieces = some ⟨oc_pieces, od_pieces, .func (PySem.W.fnOf "pieces" "pieces" (defArgs s_pieces) (defBody s_pieces) (defScope s_pieces) .none kV_pieces dc_pieces pm_pieces an_pieces cd_pieces ct_pieces), sl_pieces⟩) (h_pieces : PySem.W.codeIn K cd_pieces "pieces" = true) (k_pieces : PySem.W.keepIn K (.ref f_pieces) = true)
    {od_is_forest an_is_forest : Option Addr} {sl_is_forest : Array (Option Value)} {oc_is_forest kV_is_forest dc_is_forest pm_is_forest cd_is_forest ct_is_forest : Value}
    (a_is_forest : PySem.W.nsIn K mainGlobals "is_forest" = some (some (.ref f_is_forest))) (l_is_forest : K.lookup f_is_forest = some ⟨oc_is_forest, od_is_forest, .func (PySem.W.fnOf "is_forest" "is_forest" (defArgs s_is_forest) (defBody s_is_forest) (defScope s_is_forest) .none kV_is_forest dc_is_forest pm_is_forest an_is_forest cd_is_forest ct_is_forest), sl_is_forest⟩) (h_is_forest : PySem.W.codeIn K cd_is_forest "is_forest" = true) (k_is_forest : PySem.W.keepIn K (.ref f_is_forest) = true)
    {od_has_hub an_has_hub : Option Addr} {sl_has_hub : Array (Option Value)} {oc_has_hub kV_has_hub dc_has_hub pm_has_hub cd_has_hub ct_has_hub : Value}
    (a_has_hub : PySem.W.nsIn K mainGlobals "has_hub" = some (some (.ref f_has_hub))) (l_has_hub : K.lookup f_has_hub = some ⟨oc_has_hub, od_has_hub, .func (PySem.W.fnOf "has_hub" "has_hub" (defArgs s_has_hub) (defBody s_has_hub) (defScope s_has_hub) .none kV_has_hub dc_has_hub pm_has_hub an_has_hub cd_has_hub ct_has_hub), sl_has_hub⟩) (h_has_hub : PySem.W.codeIn K cd_has_hub "has_hub" = true) (k_has_hub : PySem.W.keepIn K (.ref f_has_hub) = true)
    {od_are_stars an_are_stars : Option Addr} {sl_are_stars : Array (Option Value)} {oc_are_stars kV_are_stars dc_are_stars pm_are_stars cd_are_stars ct_are_stars : Value}
    (a_are_stars : PySem.W.nsIn K mainGlobals "are_stars" = some (some (.ref f_are_stars))) (l_are_stars : K.lookup f_are_stars = some ⟨oc_are_stars, od_are_stars, .func (PySem.W.fnOf "are_stars" "are_stars" (defArgs s_are_stars) (defBody s_are_stars) (defScope s_are_stars) .none kV_are_stars dc_are_stars pm_are_stars an_are_stars cd_are_stars ct_are_stars), sl_are_stars⟩) (h_are_stars : PySem.W.codeIn K cd_are_stars "are_stars" = true) (k_are_stars : PySem.W.keepIn K (.ref f_are_stars) = true)
    {od_is_comb an_is_comb : Option Addr} {sl_is_comb : Array (Option Value)} {oc_is_comb kV_is_comb dc_is_comb pm_is_comb cd_is_comb ct_is_comb : Value}
    (a_is_comb : PySem.W.nsIn K mainGlobals "is_comb" = some (some (.ref f_is_comb))) (l_is_comb : K.lookup f_is_comb = some ⟨oc_is_comb, od_is_comb, .func (PySem.W.fnOf "is_comb" "is_comb" (defArgs s_is_comb) (defBody s_is_comb) (defScope s_is_comb) .none kV_is_comb dc_is_comb pm_is_comb an_is_comb cd_is_comb ct_is_comb), sl_is_comb⟩) (h_is_comb : PySem.W.codeIn K cd_is_comb "is_comb" = true) (k_is_comb : PySem.W.keepIn K (.ref f_is_comb) = true)
    {od_parents an_parents : Option Addr} {sl_parents : Array (Option Value)} {oc_parents kV_parents dc_parents pm_parents cd_parents ct_parents : Value}
    (a_parents : PySem.W.nsIn K mainGlobals "parents" = some (some (.ref f_parents))) (l_parents : K.lookup f_parents = some ⟨oc_parents, od_parents, .func (PySem.W.fnOf "parents" "parents" (defArgs s_parents) (defBody s_parents) (defScope s_parents) .none kV_parents dc_parents pm_parents an_parents cd_parents ct_parents), sl_parents⟩) (h_parents : PySem.W.codeIn K cd_parents "parents" = true) (k_parents : PySem.W.keepIn K (.ref f_parents) = true)
    {od_climbed an_climbed : Option Addr} {sl_climbed : Array (Option Value)} {oc_climbed kV_climbed dc_climbed pm_climbed cd_climbed ct_climbed : Value}
    (a_climbed : PySem.W.nsIn K mainGlobals "climbed" = some (some (.ref f_climbed))) (l_climbed : K.lookup f_climbed = some ⟨oc_climbed, od_climbed, .func (PySem.W.fnOf "climbed" "climbed" (defArgs s_climbed) (defBody s_climbed) (defScope s_climbed) .none kV_climbed dc_climbed pm_climbed an_climbed cd_climbed ct_climbed), sl_climbed⟩) (h_climbed : PySem.W.codeIn K cd_climbed "climbed" = true) (k_climbed : PySem.W.keepIn K (.ref f_climbed) = true)
    {od_has_lone_rings an_has_lone_rings : Option Addr} {sl_has_lone_rings : Array (Option Value)} {oc_has_lone_rings kV_has_lone_rings dc_has_lone_rings pm_has_lone_rings cd_has_lone_rings ct_has_lone_rings : Value}
    (a_has_lone_rings : PySem.W.nsIn K mainGlobals "has_lone_rings" = some (some (.ref f_has_lone_rings))) (l_has_lone_rings : K.lookup f_has_lone_rings = some ⟨oc_has_lone_rings, od_has_lone_rings, .func (PySem.W.fnOf "has_lone_rings" "has_lone_rings" (defArgs s_has_lone_rings) (defBody s_has_lone_rings) (defScope s_has_lone_rings) .none kV_has_lone_rings dc_has_lone_rings pm_has_lone_rings an_has_lone_rings cd_has_lone_rings ct_has_lone_rings), sl_has_lone_rings⟩) (h_has_lone_rings : PySem.W.codeIn K cd_has_lone_rings "has_lone_rings" = true) (k_has_lone_rings : PySem.W.keepIn K (.ref f_has_lone_rings) = true)
    {od_tied_to__G an_tied_to__G : Option Addr} {sl_tied_to__G : Array (Option Value)} {oc_tied_to__G kV_tied_to__G dc_tied_to__G pm_tied_to__G cd_tied_to__G ct_tied_to__G : Value}
    (a_tied_to__G : PySem.W.nsIn K mainGlobals "tied_to" = some (some (.ref f_tied_to__G))) (l_tied_to__G : K.lookup f_tied_to__G = some ⟨oc_tied_to__G, od_tied_to__G, .func (PySem.W.fnOf "tied_to" "tied_to" (defArgs s_tied_to__G) (defBody s_tied_to__G) (defScope s_tied_to__G) .none kV_tied_to__G dc_tied_to__G pm_tied_to__G an_tied_to__G cd_tied_to__G ct_tied_to__G), sl_tied_to__G⟩) (h_tied_to__G : PySem.W.codeIn K cd_tied_to__G "tied_to" = true) (k_tied_to__G : PySem.W.keepIn K (.ref f_tied_to__G) = true)
    {od_is_series an_is_series : Option Addr} {sl_is_series : Array (Option Value)} {oc_is_series kV_is_series dc_is_series pm_is_series cd_is_series ct_is_series : Value}
    (a_is_series : PySem.W.nsIn K mainGlobals "is_series" = some (some (.ref f_is_series))) (l_is_series : K.lookup f_is_series = some ⟨oc_is_series, od_is_series, .func (PySem.W.fnOf "is_series" "is_series" (defArgs s_is_series) (defBody s_is_series) (defScope s_is_series) .none kV_is_series dc_is_series pm_is_series an_is_series cd_is_series ct_is_series), sl_is_series⟩) (h_is_series : PySem.W.codeIn K cd_is_series "is_series" = true) (k_is_series : PySem.W.keepIn K (.ref f_is_series) = true)
    {od_is_kind an_is_kind : Option Addr} {sl_is_kind : Array (Option Value)} {oc_is_kind kV_is_kind dc_is_kind pm_is_kind cd_is_kind ct_is_kind : Value}
    (a_is_kind : PySem.W.nsIn K mainGlobals "is_kind" = some (some (.ref f_is_kind))) (l_is_kind : K.lookup f_is_kind = some ⟨oc_is_kind, od_is_kind, .func (PySem.W.fnOf "is_kind" "is_kind" (defArgs s_is_kind) (defBody s_is_kind) (defScope s_is_kind) .none kV_is_kind dc_is_kind pm_is_kind an_is_kind cd_is_kind ct_is_kind), sl_is_kind⟩) (h_is_kind : PySem.W.codeIn K cd_is_kind "is_kind" = true) (k_is_kind : PySem.W.keepIn K (.ref f_is_kind) = true)
    {od_l_pot an_l_pot : Option Addr} {sl_l_pot : Array (Option Value)} {oc_l_pot kV_l_pot dc_l_pot pm_l_pot cd_l_pot ct_l_pot : Value}
    (a_l_pot : PySem.W.nsIn K mainGlobals "_law_pot" = some (some (.ref f_l_pot))) (l_l_pot : K.lookup f_l_pot = some ⟨oc_l_pot, od_l_pot, .func (PySem.W.fnOf "_law_pot" "_law_pot" (defArgs s_l_pot) (defBody s_l_pot) (defScope s_l_pot) .none kV_l_pot dc_l_pot pm_l_pot an_l_pot cd_l_pot ct_l_pot), sl_l_pot⟩) (h_l_pot : PySem.W.codeIn K cd_l_pot "_law_pot" = true) (k_l_pot : PySem.W.keepIn K (.ref f_l_pot) = true)
    {od_l_take an_l_take : Option Addr} {sl_l_take : Array (Option Value)} {oc_l_take kV_l_take dc_l_take pm_l_take cd_l_take ct_l_take : Value}
    (a_l_take : PySem.W.nsIn K mainGlobals "_law_take" = some (some (.ref f_l_take))) (l_l_take : K.lookup f_l_take = some ⟨oc_l_take, od_l_take, .func (PySem.W.fnOf "_law_take" "_law_take" (defArgs s_l_take) (defBody s_l_take) (defScope s_l_take) .none kV_l_take dc_l_take pm_l_take an_l_take cd_l_take ct_l_take), sl_l_take⟩) (h_l_take : PySem.W.codeIn K cd_l_take "_law_take" = true) (k_l_take : PySem.W.keepIn K (.ref f_l_take) = true)
    {od_l_web an_l_web : Option Addr} {sl_l_web : Array (Option Value)} {oc_l_web kV_l_web dc_l_web pm_l_web cd_l_web ct_l_web : Value}
    (a_l_web : PySem.W.nsIn K mainGlobals "_law_web" = some (some (.ref f_l_web))) (l_l_web : K.lookup f_l_web = some ⟨oc_l_web, od_l_web, .func (PySem.W.fnOf "_law_web" "_law_web" (defArgs s_l_web) (defBody s_l_web) (defScope s_l_web) .none kV_l_web dc_l_web pm_l_web an_l_web cd_l_web ct_l_web), sl_l_web⟩) (h_l_web : PySem.W.codeIn K cd_l_web "_law_web" = true) (k_l_web : PySem.W.keepIn K (.ref f_l_web) = true)
    {od_has_more an_has_more : Option Addr} {sl_has_more : Array (Option Value)} {oc_has_more kV_has_more dc_has_more pm_has_more cd_has_more ct_has_more : Value}
    (a_has_more : PySem.W.nsIn K mainGlobals "has_more" = some (some (.ref f_has_more))) (l_has_more : K.lookup f_has_more = some ⟨oc_has_more, od_has_more, .func (PySem.W.fnOf "has_more" "has_more" (defArgs s_has_more) (defBody s_has_more) (defScope s_has_more) .none kV_has_more dc_has_more pm_has_more an_has_more cd_has_more ct_has_more), sl_has_more⟩) (h_has_more : PySem.W.codeIn K cd_has_more "has_more" = true) (k_has_more : PySem.W.keepIn K (.ref f_has_more) = true)
    {od_bars_wall an_bars_wall : Option Addr} {sl_bars_wall : Array (Option Value)} {oc_bars_wall kV_bars_wall dc_bars_wall pm_bars_wall cd_bars_wall ct_bars_wall : Value}
    (a_bars_wall : PySem.W.nsIn K mainGlobals "bars_wall" = some (some (.ref f_bars_wall))) (l_bars_wall : K.lookup f_bars_wall = some ⟨oc_bars_wall, od_bars_wall, .func (PySem.W.fnOf "bars_wall" "bars_wall" (defArgs s_bars_wall) (defBody s_bars_wall) (defScope s_bars_wall) .none kV_bars_wall dc_bars_wall pm_bars_wall an_bars_wall cd_bars_wall ct_bars_wall), sl_bars_wall⟩) (h_bars_wall : PySem.W.codeIn K cd_bars_wall "bars_wall" = true) (k_bars_wall : PySem.W.keepIn K (.ref f_bars_wall) = true)
    {od_shows_book an_shows_book : Option Addr} {sl_shows_book : Array (Option Value)} {oc_shows_book kV_shows_book dc_shows_book pm_shows_book cd_shows_book ct_shows_book : Value}
    (a_shows_book : PySem.W.nsIn K mainGlobals "shows_book" = some (some (.ref f_shows_book))) (l_shows_book : K.lookup f_shows_book = some ⟨oc_shows_book, od_shows_book, .func (PySem.W.fnOf "shows_book" "shows_book" (defArgs s_shows_book) (defBody s_shows_book) (defScope s_shows_book) .none kV_shows_book dc_shows_book pm_shows_book an_shows_book cd_shows_book ct_shows_book), sl_shows_book⟩) (h_shows_book : PySem.W.codeIn K cd_shows_book "shows_book" = true) (k_shows_book : PySem.W.keepIn K (.ref f_shows_book) = true)
    {od_kinds an_kinds : Option Addr} {sl_kinds : Array (Option Value)} {oc_kinds kV_kinds dc_kinds pm_kinds cd_kinds ct_kinds : Value}
    (a_kinds : PySem.W.nsIn K mainGlobals "kinds" = some (some (.ref f_kinds))) (l_kinds : K.lookup f_kinds = some ⟨oc_kinds, od_kinds, .func (PySem.W.fnOf "kinds" "kinds" (defArgs s_kinds) (defBody s_kinds) (defScope s_kinds) .none kV_kinds dc_kinds pm_kinds an_kinds cd_kinds ct_kinds), sl_kinds⟩) (h_kinds : PySem.W.codeIn K cd_kinds "kinds" = true) (k_kinds : PySem.W.keepIn K (.ref f_kinds) = true)
    {od_least_width an_least_width : Option Addr} {sl_least_width : Array (Option Value)} {oc_least_width kV_least_width dc_least_width pm_least_width cd_least_width ct_least_width : Value}
    (a_least_width : PySem.W.nsIn K mainGlobals "least_width" = some (some (.ref f_least_width))) (l_least_width : K.lookup f_least_width = some ⟨oc_least_width, od_least_width, .func (PySem.W.fnOf "least_width" "least_width" (defArgs s_least_width) (defBody s_least_width) (defScope s_least_width) .none kV_least_width dc_least_width pm_least_width an_least_width cd_least_width ct_least_width), sl_least_width⟩) (h_least_width : PySem.W.codeIn K cd_least_width "least_width" = true) (k_least_width : PySem.W.keepIn K (.ref f_least_width) = true)
    {od_least_spread an_least_spread : Option Addr} {sl_least_spread : Array (Option Value)} {oc_least_spread kV_least_spread dc_least_spread pm_least_spread cd_least_spread ct_least_spread : Value}
    (a_least_spread : PySem.W.nsIn K mainGlobals "least_spread" = some (some (.ref f_least_spread))) (l_least_spread : K.lookup f_least_spread = some ⟨oc_least_spread, od_least_spread, .func (PySem.W.fnOf "least_spread" "least_spread" (defArgs s_least_spread) (defBody s_least_spread) (defScope s_least_spread) .none kV_least_spread dc_least_spread pm_least_spread an_least_spread cd_least_spread ct_least_spread), sl_least_spread⟩) (h_least_spread : PySem.W.codeIn K cd_least_spread "least_spread" = true) (k_least_spread : PySem.W.keepIn K (.ref f_least_spread) = true)
    {od_width an_width : Option Addr} {sl_width : Array (Option Value)} {oc_width kV_width dc_width pm_width cd_width ct_width : Value}
    (a_width : PySem.W.nsIn K mainGlobals "width" = some (some (.ref f_width))) (l_width : K.lookup f_width = some ⟨oc_width, od_width, .func (PySem.W.fnOf "width" "width" (defArgs s_width) (defBody s_width) (defScope s_width) .none kV_width dc_width pm_width an_width cd_width ct_width), sl_width⟩) (h_width : PySem.W.codeIn K cd_width "width" = true) (k_width : PySem.W.keepIn K (.ref f_width) = true)
    {od_spread an_spread : Option Addr} {sl_spread : Array (Option Value)} {oc_spread kV_spread dc_spread pm_spread cd_spread ct_spread : Value}
    (a_spread : PySem.W.nsIn K mainGlobals "spread" = some (some (.ref f_spread))) (l_spread : K.lookup f_spread = some ⟨oc_spread, od_spread, .func (PySem.W.fnOf "spread" "spread" (defArgs s_spread) (defBody s_spread) (defScope s_spread) .none kV_spread dc_spread pm_spread an_spread cd_spread ct_spread), sl_spread⟩) (h_spread : PySem.W.codeIn K cd_spread "spread" = true) (k_spread : PySem.W.keepIn K (.ref f_spread) = true)
    {od_is_order an_is_order : Option Addr} {sl_is_order : Array (Option Value)} {oc_is_order kV_is_order dc_is_order pm_is_order cd_is_order ct_is_order : Value}
    (a_is_order : PySem.W.nsIn K mainGlobals "is_order" = some (some (.ref f_is_order))) (l_is_order : K.lookup f_is_order = some ⟨oc_is_order, od_is_order, .func (PySem.W.fnOf "is_order" "is_order" (defArgs s_is_order) (defBody s_is_order) (defScope s_is_order) .none kV_is_order dc_is_order pm_is_order an_is_order cd_is_order ct_is_order), sl_is_order⟩) (h_is_order : PySem.W.codeIn K cd_is_order "is_order" = true) (k_is_order : PySem.W.keepIn K (.ref f_is_order) = true)
    {od_bars_by an_bars_by : Option Addr} {sl_bars_by : Array (Option Value)} {oc_bars_by kV_bars_by dc_bars_by pm_bars_by cd_bars_by ct_bars_by : Value}
    (a_bars_by : PySem.W.nsIn K mainGlobals "bars_by" = some (some (.ref f_bars_by))) (l_bars_by : K.lookup f_bars_by = some ⟨oc_bars_by, od_bars_by, .func (PySem.W.fnOf "bars_by" "bars_by" (defArgs s_bars_by) (defBody s_bars_by) (defScope s_bars_by) .none kV_bars_by dc_bars_by pm_bars_by an_bars_by cd_bars_by ct_bars_by), sl_bars_by⟩) (h_bars_by : PySem.W.codeIn K cd_bars_by "bars_by" = true) (k_bars_by : PySem.W.keepIn K (.ref f_bars_by) = true)
    {od_shows_barred an_shows_barred : Option Addr} {sl_shows_barred : Array (Option Value)} {oc_shows_barred kV_shows_barred dc_shows_barred pm_shows_barred cd_shows_barred ct_shows_barred : Value}
    (a_shows_barred : PySem.W.nsIn K mainGlobals "shows_barred" = some (some (.ref f_shows_barred))) (l_shows_barred : K.lookup f_shows_barred = some ⟨oc_shows_barred, od_shows_barred, .func (PySem.W.fnOf "shows_barred" "shows_barred" (defArgs s_shows_barred) (defBody s_shows_barred) (defScope s_shows_barred) .none kV_shows_barred dc_shows_barred pm_shows_barred an_shows_barred cd_shows_barred ct_shows_barred), sl_shows_barred⟩) (h_shows_barred : PySem.W.codeIn K cd_shows_barred "shows_barred" = true) (k_shows_barred : PySem.W.keepIn K (.ref f_shows_barred) = true)
    {od_l_right an_l_right : Option Addr} {sl_l_right : Array (Option Value)} {oc_l_right kV_l_right dc_l_right pm_l_right cd_l_right ct_l_right : Value}
    (a_l_right : PySem.W.nsIn K mainGlobals "_law_right" = some (some (.ref f_l_right))) (l_l_right : K.lookup f_l_right = some ⟨oc_l_right, od_l_right, .func (PySem.W.fnOf "_law_right" "_law_right" (defArgs s_l_right) (defBody s_l_right) (defScope s_l_right) .none kV_l_right dc_l_right pm_l_right an_l_right cd_l_right ct_l_right), sl_l_right⟩) (h_l_right : PySem.W.codeIn K cd_l_right "_law_right" = true) (k_l_right : PySem.W.keepIn K (.ref f_l_right) = true)
    {od_law an_law : Option Addr} {sl_law : Array (Option Value)} {oc_law kV_law dc_law pm_law cd_law ct_law : Value}
    (a_law : PySem.W.nsIn K mainGlobals "law" = some (some (.ref f_law))) (l_law : K.lookup f_law = some ⟨oc_law, od_law, .func (PySem.W.fnOf "law" "law" (defArgs s_law) (defBody s_law) (defScope s_law) .none kV_law dc_law pm_law an_law cd_law ct_law), sl_law⟩) (h_law : PySem.W.codeIn K cd_law "law" = true) (k_law : PySem.W.keepIn K (.ref f_law) = true)
    (z_abs : PySem.W.nsIn K mainGlobals "abs" = some none)
    (z_all : PySem.W.nsIn K mainGlobals "all" = some none)
    (z_any : PySem.W.nsIn K mainGlobals "any" = some none)
    (z_bool : PySem.W.nsIn K mainGlobals "bool" = some none)
    (z_dict : PySem.W.nsIn K mainGlobals "dict" = some none)
    (z_enumerate : PySem.W.nsIn K mainGlobals "enumerate" = some none)
    (z_int : PySem.W.nsIn K mainGlobals "int" = some none)
    (z_isinstance : PySem.W.nsIn K mainGlobals "isinstance" = some none)
    (z_len : PySem.W.nsIn K mainGlobals "len" = some none)
    (z_list : PySem.W.nsIn K mainGlobals "list" = some none)
    (z_max : PySem.W.nsIn K mainGlobals "max" = some none)
    (z_min : PySem.W.nsIn K mainGlobals "min" = some none)
    (z_range : PySem.W.nsIn K mainGlobals "range" = some none)
    (z_set : PySem.W.nsIn K mainGlobals "set" = some none)
    (z_sorted : PySem.W.nsIn K mainGlobals "sorted" = some none)
    (z_str : PySem.W.nsIn K mainGlobals "str" = some none)
    (z_sum : PySem.W.nsIn K mainGlobals "sum" = some none)
    (z_tuple : PySem.W.nsIn K mainGlobals "tuple" = some none)
    (z_zip : PySem.W.nsIn K mainGlobals "zip" = some none)
    {t_MOST_BOOK : Tok} (x_MOST_BOOK : PySem.W.nsIn K mainGlobals "MOST_BOOK" = some (some (.int 9 t_MOST_BOOK)))
    {q_WORDS : Addr} {od_WORDS : Option Addr} {n_WORDS : Nat} {sl_WORDS : Array (Option Value)} {t0_WORDS t1_WORDS t2_WORDS t3_WORDS t4_WORDS t5_WORDS t6_WORDS t7_WORDS t8_WORDS : Tok} (x_WORDS : PySem.W.nsIn K mainGlobals "WORDS" = some (some (.ref q_WORDS))) (y_WORDS : K.lookup q_WORDS = some ⟨.type "tuple", od_WORDS, .seq #[.str (Str.ofString "bare") t0_WORDS, .str (Str.ofString "pairs") t1_WORDS, .str (Str.ofString "hub") t2_WORDS, .str (Str.ofString "stars") t3_WORDS, .str (Str.ofString "rows") t4_WORDS, .str (Str.ofString "combs") t5_WORDS, .str (Str.ofString "forest") t6_WORDS, .str (Str.ofString "rings") t7_WORDS, .str (Str.ofString "series") t8_WORDS] n_WORDS, sl_WORDS⟩)
    : ∃ fd : FuncData, (∀ (s : Shared) (v : Value), BindsTo s fd ⟨[v], []⟩ [("_law_script", v)]) ∧ ∀ base : Heap, K.In base → base.Ns mainGlobals mg → FnG l.prog w K mg base 11 fa fd ["_law_script"] (spF K m_law) := by
  have e := hfa.symm.trans (PySem.W.mg_of X G a_law)
  cases e
  have T : Txt K mg := ⟨PySem.W.mg_none_of X G z_abs, PySem.W.mg_none_of X G z_all, PySem.W.mg_none_of X G z_any, PySem.W.mg_none_of X G z_bool, PySem.W.mg_none_of X G z_dict, PySem.W.mg_none_of X G z_enumerate, PySem.W.mg_none_of X G z_int, PySem.W.mg_none_of X G z_isinstance, PySem.W.mg_none_of X G z_len, PySem.W.mg_none_of X G z_list, PySem.W.mg_none_of X G z_max, PySem.W.mg_none_of X G z_min, PySem.W.mg_none_of X G z_range, PySem.W.mg_none_of X G z_set, PySem.W.mg_none_of X G z_sorted, PySem.W.mg_none_of X G z_str, PySem.W.mg_none_of X G z_sum, PySem.W.mg_none_of X G z_tuple, PySem.W.mg_none_of X G z_zip, ⟨_, PySem.W.mg_of X G x_MOST_BOOK⟩, ⟨_, PySem.W.mg_of X G x_WORDS, ktup_nine y_WORDS⟩, fun nm hm => by
    simp only [List.mem_cons, List.not_mem_nil, or_false] at hm
    subst hm
    exact ⟨_, gl_Errand, ⟨pg_Errand, hd_Errand, po_Errand, sa_Errand⟩, n_Errand_below⟩, fun nm hm => by
    simp only [List.mem_cons, List.not_mem_nil, or_false] at hm
    subst hm
    exact ⟨_, gl_Half, ⟨pg_Half, hd_Half, po_Half, sa_Half⟩, n_Half_free⟩, fun nm hm => by
    simp only [List.mem_cons, List.not_mem_nil, or_false] at hm
    subst hm
    exact ⟨_, gl_Half, ⟨pg_Half, hd_Half, po_Half, sa_Half⟩, n_Half_lots⟩, fun nm hm => by
    simp only [List.mem_cons, List.not_mem_nil, or_false] at hm
    subst hm
    exact ⟨_, gl_Errand, ⟨pg_Errand, hd_Errand, po_Errand, sa_Errand⟩, n_Errand_near⟩, fun nm hm => by
    simp only [List.mem_cons, List.not_mem_nil, or_false] at hm
    subst hm
    exact ⟨_, gl_Errand, ⟨pg_Errand, hd_Errand, po_Errand, sa_Errand⟩, n_Errand_places⟩, fun nm hm => by
    simp only [List.mem_cons, List.not_mem_nil, or_false] at hm
    subst hm
    exact ⟨_, gl_Errand, ⟨pg_Errand, hd_Errand, po_Errand, sa_Errand⟩, n_Errand_tied⟩, fun nm hm => by
    simp only [List.mem_cons, List.not_mem_nil, or_false] at hm
    subst hm
    exact ⟨_, gl_Errand, ⟨pg_Errand, hd_Errand, po_Errand, sa_Errand⟩, n_Errand_twins⟩, fun nm hm => by
    simp only [List.mem_cons, List.not_mem_nil, or_false] at hm
    subst hm
    exact ⟨_, gl_Errand, ⟨pg_Errand, hd_Errand, po_Errand, sa_Errand⟩, n_Errand_wanted⟩, fun nm hm => by
    simp only [List.mem_cons, List.not_mem_nil, or_false] at hm
    subst hm
    exact ⟨_, gl_Errand, ⟨pg_Errand, hd_Errand, po_Errand, sa_Errand⟩, n_Errand_what⟩⟩
  have F_tied_to := fun_mk (st := s_tied_to) l_tied_to h_tied_to k_tied_to
  have g_tied_to := PySem.W.mg_of X G a_tied_to
  have F_most_ties := fun_mk (st := s_most_ties) l_most_ties h_most_ties k_most_ties
  have g_most_ties := PySem.W.mg_of X G a_most_ties
  have F_near := fun_mk (st := s_near) l_near h_near k_near
  have g_near := PySem.W.mg_of X G a_near
  have F_piece_of := fun_mk (st := s_piece_of) l_piece_of h_piece_of k_piece_of
  have g_piece_of := PySem.W.mg_of X G a_piece_of
  have F_pieces := fun_mk (st := s_pieces) l_pieces h_pieces k_pieces
  have g_pieces := PySem.W.mg_of X G a_pieces
  have F_is_forest := fun_mk (st := s_is_forest) l_is_forest h_is_forest k_is_forest
  have g_is_forest := PySem.W.mg_of X G a_is_forest
  have F_has_hub := fun_mk (st := s_has_hub) l_has_hub h_has_hub k_has_hub
  have g_has_hub := PySem.W.mg_of X G a_has_hub
  have F_are_stars := fun_mk (st := s_are_stars) l_are_stars h_are_stars k_are_stars
  have g_are_stars := PySem.W.mg_of X G a_are_stars
  have F_is_comb := fun_mk (st := s_is_comb) l_is_comb h_is_comb k_is_comb
  have g_is_comb := PySem.W.mg_of X G a_is_comb
  have F_parents := fun_mk (st := s_parents) l_parents h_parents k_parents
  have g_parents := PySem.W.mg_of X G a_parents
  have F_climbed := fun_mk (st := s_climbed) l_climbed h_climbed k_climbed
  have g_climbed := PySem.W.mg_of X G a_climbed
  have F_has_lone_rings := fun_mk (st := s_has_lone_rings) l_has_lone_rings h_has_lone_rings k_has_lone_rings
  have g_has_lone_rings := PySem.W.mg_of X G a_has_lone_rings
  have F_tied_to__G := fun_mk (st := s_tied_to__G) l_tied_to__G h_tied_to__G k_tied_to__G
  have g_tied_to__G := PySem.W.mg_of X G a_tied_to__G
  have F_is_series := fun_mk (st := s_is_series) l_is_series h_is_series k_is_series
  have g_is_series := PySem.W.mg_of X G a_is_series
  have F_is_kind := fun_mk (st := s_is_kind) l_is_kind h_is_kind k_is_kind
  have g_is_kind := PySem.W.mg_of X G a_is_kind
  have F_l_pot := fun_mk (st := s_l_pot) l_l_pot h_l_pot k_l_pot
  have g_l_pot := PySem.W.mg_of X G a_l_pot
  have F_l_take := fun_mk (st := s_l_take) l_l_take h_l_take k_l_take
  have g_l_take := PySem.W.mg_of X G a_l_take
  have F_l_web := fun_mk (st := s_l_web) l_l_web h_l_web k_l_web
  have g_l_web := PySem.W.mg_of X G a_l_web
  have F_has_more := fun_mk (st := s_has_more) l_has_more h_has_more k_has_more
  have g_has_more := PySem.W.mg_of X G a_has_more
  have F_bars_wall := fun_mk (st := s_bars_wall) l_bars_wall h_bars_wall k_bars_wall
  have g_bars_wall := PySem.W.mg_of X G a_bars_wall
  have F_shows_book := fun_mk (st := s_shows_book) l_shows_book h_shows_book k_shows_book
  have g_shows_book := PySem.W.mg_of X G a_shows_book
  have F_kinds := fun_mk (st := s_kinds) l_kinds h_kinds k_kinds
  have g_kinds := PySem.W.mg_of X G a_kinds
  have F_least_width := fun_mk (st := s_least_width) l_least_width h_least_width k_least_width
  have g_least_width := PySem.W.mg_of X G a_least_width
  have F_least_spread := fun_mk (st := s_least_spread) l_least_spread h_least_spread k_least_spread
  have g_least_spread := PySem.W.mg_of X G a_least_spread
  have F_width := fun_mk (st := s_width) l_width h_width k_width
  have g_width := PySem.W.mg_of X G a_width
  have F_spread := fun_mk (st := s_spread) l_spread h_spread k_spread
  have g_spread := PySem.W.mg_of X G a_spread
  have F_is_order := fun_mk (st := s_is_order) l_is_order h_is_order k_is_order
  have g_is_order := PySem.W.mg_of X G a_is_order
  have F_bars_by := fun_mk (st := s_bars_by) l_bars_by h_bars_by k_bars_by
  have g_bars_by := PySem.W.mg_of X G a_bars_by
  have F_shows_barred := fun_mk (st := s_shows_barred) l_shows_barred h_shows_barred k_shows_barred
  have g_shows_barred := PySem.W.mg_of X G a_shows_barred
  have F_l_right := fun_mk (st := s_l_right) l_l_right h_l_right k_l_right
  have g_l_right := PySem.W.mg_of X G a_l_right
  have F_law := fun_mk (st := s_law) l_law h_law k_law
  have g_law := PySem.W.mg_of X G a_law
  refine ⟨PySem.W.fnOf "law" "law" (defArgs s_law) (defBody s_law) (defScope s_law) .none kV_law dc_law pm_law an_law cd_law ct_law, fun s v => .of_eq rfl, fun base _ _ => ?_⟩
  have C_tied_to : Cal l.prog w K mg base 1 "tied_to" m_tied_to := c_tied_to T F_tied_to g_tied_to 
  have C_most_ties : Cal l.prog w K mg base 2 "most_ties" m_most_ties := c_most_ties T F_most_ties g_most_ties C_tied_to
  have C_near : Cal l.prog w K mg base 1 "near" m_near := c_near T F_near g_near 
  have C_piece_of : Cal l.prog w K mg base 2 "piece_of" m_piece_of := c_piece_of T F_piece_of g_piece_of C_near
  have C_pieces : Cal l.prog w K mg base 3 "pieces" m_pieces := c_pieces T F_pieces g_pieces C_piece_of
  have C_is_forest : Cal l.prog w K mg base 4 "is_forest" m_is_forest := c_is_forest T F_is_forest g_is_forest C_pieces
  have C_has_hub : Cal l.prog w K mg base 1 "has_hub" m_has_hub := c_has_hub T F_has_hub g_has_hub 
  have C_are_stars : Cal l.prog w K mg base 2 "are_stars" m_are_stars := c_are_stars T F_are_stars g_are_stars C_tied_to
  have C_is_comb : Cal l.prog w K mg base 5 "is_comb" m_is_comb := c_is_comb T F_is_comb g_is_comb C_tied_to C_is_forest
  have C_parents : Cal l.prog w K mg base 2 "parents" m_parents := c_parents T F_parents g_parents C_tied_to
  have C_climbed : Cal l.prog w K mg base 1 "climbed" m_climbed := c_climbed T F_climbed g_climbed 
  have C_has_lone_rings : Cal l.prog w K mg base 3 "has_lone_rings" m_has_lone_rings := c_has_lone_rings T F_has_lone_rings g_has_lone_rings C_parents C_climbed
  have C_tied_to__G : Cal l.prog w K mg base 1 "tied_to" m_tied_to__G := c_tied_to__G T F_tied_to__G g_tied_to__G 
  have C_is_series : Cal l.prog w K mg base 2 "is_series" m_is_series := c_is_series T F_is_series g_is_series C_tied_to__G
  have C_is_kind : Cal l.prog w K mg base 6 "is_kind" m_is_kind := c_is_kind T F_is_kind g_is_kind C_most_ties C_is_forest C_has_hub C_are_stars C_is_comb C_has_lone_rings C_is_series
  have C_l_pot : Cal l.prog w K mg base 1 "_law_pot" m_l_pot := c_l_pot T F_l_pot g_l_pot 
  have C_l_take : Cal l.prog w K mg base 1 "_law_take" m_l_take := c_l_take T F_l_take g_l_take 
  have C_l_web : Cal l.prog w K mg base 2 "_law_web" m_l_web := c_l_web T F_l_web g_l_web C_l_take
  have C_has_more : Cal l.prog w K mg base 1 "has_more" m_has_more := c_has_more T F_has_more g_has_more 
  have C_bars_wall : Cal l.prog w K mg base 1 "bars_wall" m_bars_wall := c_bars_wall T F_bars_wall g_bars_wall 
  have C_shows_book : Cal l.prog w K mg base 1 "shows_book" m_shows_book := c_shows_book T F_shows_book g_shows_book 
  have C_kinds : Cal l.prog w K mg base 7 "kinds" m_kinds := c_kinds T F_kinds g_kinds C_is_kind
  have C_least_width : Cal l.prog w K mg base 1 "least_width" m_least_width := c_least_width T F_least_width g_least_width 
  have C_least_spread : Cal l.prog w K mg base 1 "least_spread" m_least_spread := c_least_spread T F_least_spread g_least_spread 
  have C_width : Cal l.prog w K mg base 1 "width" m_width := c_width T F_width g_width 
  have C_spread : Cal l.prog w K mg base 1 "spread" m_spread := c_spread T F_spread g_spread 
  have C_is_order : Cal l.prog w K mg base 1 "is_order" m_is_order := c_is_order T F_is_order g_is_order 
  have C_bars_by : Cal l.prog w K mg base 8 "bars_by" m_bars_by := c_bars_by T F_bars_by g_bars_by C_shows_book C_kinds C_least_width C_least_spread C_width C_spread C_is_order
  have C_shows_barred : Cal l.prog w K mg base 9 "shows_barred" m_shows_barred := c_shows_barred T F_shows_barred g_shows_barred C_has_more C_bars_wall C_bars_by
  have C_l_right : Cal l.prog w K mg base 10 "_law_right" m_l_right := c_l_right T F_l_right g_l_right C_shows_barred
  exact o_law T F_law C_is_kind C_l_pot C_l_take C_l_web C_l_right
end Z
open PySem PySem.W PyProof.Rows
set_option maxHeartbeats 0 in
theorem PySem.Challenge.cw_drawnweb_k50_counts_and_kinds_bar_holds : PySem.Challenge.rw_drawnweb_k50_counts_and_kinds_bar.Holds := by
  w_on; o_law; k_head; (case hw => w_witness2)
  k_fill
  refine MV.walkG (l := PySem.Challenge.rw_drawnweb_k50_counts_and_kinds_bar) (n := 63) (k := 11) (x := "_law_script") (sp := fun w => MV.spF _ Z.m_law) rfl (by decide) rfl ⟨rfl, by decide, by decide⟩ (fun w h Y => PySem.W.kIn_of Y) ?F (fun _ H a ns hl hO hS => MV.law_sp (fun ns hl => Z.law_true ns hl) H a ns hl hO hS)
  case F =>
    intro w mg fa h KX G hmg
    refine' Z.all_mk KX G hmg ?gl_Errand ?pg_Errand ?hd_Errand ?po_Errand ?sa_Errand ?mk_Errand ?kc_Errand ?n_Errand_below ?n_Errand_near ?n_Errand_places ?n_Errand_tied ?n_Errand_twins ?n_Errand_wanted ?n_Errand_what ?gl_Half ?pg_Half ?hd_Half ?po_Half ?sa_Half ?mk_Half ?kc_Half ?n_Half_free ?n_Half_lots ?a_tied_to ?l_tied_to ?h_tied_to ?k_tied_to ?a_most_ties ?l_most_ties ?h_most_ties ?k_most_ties ?a_near ?l_near ?h_near ?k_near ?a_piece_of ?l_piece_of ?h_piece_of ?k_piece_of ?a_pieces ?l_pieces ?h_pieces ?k_pieces ?a_is_forest ?l_is_forest ?h_is_forest ?k_is_forest ?a_has_hub ?l_has_hub ?h_has_hub ?k_has_hub ?a_are_stars ?l_are_stars ?h_are_stars ?k_are_stars ?a_is_comb ?l_is_comb ?h_is_comb ?k_is_comb ?a_parents ?l_parents ?h_parents ?k_parents ?a_climbed ?l_climbed ?h_climbed ?k_climbed ?a_has_lone_rings ?l_has_lone_rings ?h_has_lone_rings ?k_has_lone_rings ?a_tied_to__G ?l_tied_to__G ?h_tied_to__G ?k_tied_to__G ?a_is_series ?l_is_series ?h_is_series ?k_is_series ?a_is_kind ?l_is_kind ?h_is_kind ?k_is_kind ?a_l_pot ?l_l_pot ?h_l_pot ?k_l_pot ?a_l_take ?l_l_take ?h_l_take ?k_l_take ?a_l_web ?l_l_web ?h_l_web ?k_l_web ?a_has_more ?l_has_more ?h_has_more ?k_has_more ?a_bars_wall ?l_bars_wall ?h_bars_wall ?k_bars_wall ?a_shows_book ?l_shows_book ?h_shows_book ?k_shows_book ?a_kinds ?l_kinds ?h_kinds ?k_kinds ?a_least_width ?l_least_width ?h_least_width ?k_least_width ?a_least_spread ?l_least_spread ?h_least_spread ?k_least_spread ?a_width ?l_width ?h_width ?k_width ?a_spread ?l_spread ?h_spread ?k_spread ?a_is_order ?l_is_order ?h_is_order ?k_is_order ?a_bars_by ?l_bars_by ?h_bars_by ?k_bars_by ?a_shows_barred ?l_shows_barred ?h_shows_barred ?k_shows_barred ?a_l_right ?l_l_right ?h_l_right ?k_l_right ?a_law ?l_law ?h_law ?k_law ?z_abs ?z_all ?z_any ?z_bool ?z_dict ?z_enumerate ?z_int ?z_isinstance ?z_len ?z_list ?z_max ?z_min ?z_range ?z_set ?z_sorted ?z_str ?z_sum ?z_tuple ?z_zip ?x_MOST_BOOK ?x_WORDS ?y_WORDS
    (case gl_Errand => k_is)
    (case pg_Errand => k_is)
    (case hd_Errand => k_is)
    (case po_Errand => k_is)
    (case sa_Errand => k_is)
    (case mk_Errand => k_is)
    (case kc_Errand => k_is)
    (case n_Errand_below => k_is)
    (case n_Errand_near => k_is)
    (case n_Errand_places => k_is)
    (case n_Errand_tied => k_is)
    (case n_Errand_twins => k_is)
    (case n_Errand_wanted => k_is)
    (case n_Errand_what => k_is)
    (case gl_Half => k_is)
    (case pg_Half => k_is)
    (case hd_Half => k_is)
    (case po_Half => k_is)
    (case sa_Half => k_is)
    (case mk_Half => k_is)
    (case kc_Half => k_is)
    (case n_Half_free => k_is)
    (case n_Half_lots => k_is)
    (case a_tied_to => k_is)
    (case l_tied_to => k_is)
    (case h_tied_to => k_is)
    (case k_tied_to => k_is)
    (case a_most_ties => k_is)
    (case l_most_ties => k_is)
    (case h_most_ties => k_is)
    (case k_most_ties => k_is)
    (case a_near => k_is)
    (case l_near => k_is)
    (case h_near => k_is)
    (case k_near => k_is)
    (case a_piece_of => k_is)
    (case l_piece_of => k_is)
    (case h_piece_of => k_is)
    (case k_piece_of => k_is)
    (case a_pieces => k_is)
    (case l_pieces => k_is)
    (case h_pieces => k_is)
    (case k_pieces => k_is)
    (case a_is_forest => k_is)
    (case l_is_forest => k_is)
    (case h_is_forest => k_is)
    (case k_is_forest => k_is)
    (case a_has_hub => k_is)
    (case l_has_hub => k_is)
    (case h_has_hub => k_is)
    (case k_has_hub => k_is)
    (case a_are_stars => k_is)
    (case l_are_stars => k_is)
    (case h_are_stars => k_is)
    (case k_are_stars => k_is)
    (case a_is_comb => k_is)
    (case l_is_comb => k_is)
    (case h_is_comb => k_is)
    (case k_is_comb => k_is)
    (case a_parents => k_is)
    (case l_parents => k_is)
    (case h_parents => k_is)
    (case k_parents => k_is)
    (case a_climbed => k_is)
    (case l_climbed => k_is)
    (case h_climbed => k_is)
    (case k_climbed => k_is)
    (case a_has_lone_rings => k_is)
    (case l_has_lone_rings => k_is)
    (case h_has_lone_rings => k_is)
    (case k_has_lone_rings => k_is)
    (case a_tied_to__G => k_is)
    (case l_tied_to__G => k_is)
    (case h_tied_to__G => k_is)
    (case k_tied_to__G => k_is)
    (case a_is_series => k_is)
    (case l_is_series => k_is)
    (case h_is_series => k_is)
    (case k_is_series => k_is)
    (case a_is_kind => k_is)
    (case l_is_kind => k_is)
    (case h_is_kind => k_is)
    (case k_is_kind => k_is)
    (case a_l_pot => k_is)
    (case l_l_pot => k_is)
    (case h_l_pot => k_is)
    (case k_l_pot => k_is)
    (case a_l_take => k_is)
    (case l_l_take => k_is)
    (case h_l_take => k_is)
    (case k_l_take => k_is)
    (case a_l_web => k_is)
    (case l_l_web => k_is)
    (case h_l_web => k_is)
    (case k_l_web => k_is)
    (case a_has_more => k_is)
    (case l_has_more => k_is)
    (case h_has_more => k_is)
    (case k_has_more => k_is)
    (case a_bars_wall => k_is)
    (case l_bars_wall => k_is)
    (case h_bars_wall => k_is)
    (case k_bars_wall => k_is)
    (case a_shows_book => k_is)
    (case l_shows_book => k_is)
    (case h_shows_book => k_is)
    (case k_shows_book => k_is)
    (case a_kinds => k_is)
    (case l_kinds => k_is)
    (case h_kinds => k_is)
    (case k_kinds => k_is)
    (case a_least_width => k_is)
    (case l_least_width => k_is)
    (case h_least_width => k_is)
    (case k_least_width => k_is)
    (case a_least_spread => k_is)
    (case l_least_spread => k_is)
    (case h_least_spread => k_is)
    (case k_least_spread => k_is)
    (case a_width => k_is)
    (case l_width => k_is)
    (case h_width => k_is)
    (case k_width => k_is)
    (case a_spread => k_is)
    (case l_spread => k_is)
    (case h_spread => k_is)
    (case k_spread => k_is)
    (case a_is_order => k_is)
    (case l_is_order => k_is)
    (case h_is_order => k_is)
    (case k_is_order => k_is)
    (case a_bars_by => k_is)
    (case l_bars_by => k_is)
    (case h_bars_by => k_is)
    (case k_bars_by => k_is)
    (case a_shows_barred => k_is)
    (case l_shows_barred => k_is)
    (case h_shows_barred => k_is)
    (case k_shows_barred => k_is)
    (case a_l_right => k_is)
    (case l_l_right => k_is)
    (case h_l_right => k_is)
    (case k_l_right => k_is)
    (case a_law => k_is)
    (case l_law => k_is)
    (case h_law => k_is)
    (case k_law => k_is)
    (case z_abs => k_is)
    (case z_all => k_is)
    (case z_any => k_is)
    (case z_bool => k_is)
    (case z_dict => k_is)
    (case z_enumerate => k_is)
    (case z_int => k_is)
    (case z_isinstance => k_is)
    (case z_len => k_is)
    (case z_list => k_is)
    (case z_max => k_is)
    (case z_min => k_is)
    (case z_range => k_is)
    (case z_set => k_is)
    (case z_sorted => k_is)
    (case z_str => k_is)
    (case z_sum => k_is)
    (case z_tuple => k_is)
    (case z_zip => k_is)
    (case x_MOST_BOOK => k_is)
    (case x_WORDS => k_is)
    (case y_WORDS => k_is)
