import PyProof.Rows.All
import Wide.All
import OpenK.AllK
import Wide.FinOn
import HandS.ForMost
import HandS.Wide
import HandS.Deep
import HandS.Walk
import HandS.Zip
import HandS.TupAny
import HandS.Flow
import HandS.IsInst
import HandS.TupMul
import HandS.Conv
import PyProof.EqKinds
import PyProof.NeKinds
import HandS.DictEq
import PyProof.P3Eq
import PyProof.Rows.RuleB_pow
import KE.DataCmp
import HandS.SortInts
import HandS.More
import KE.SortData
import KE.DataMinMax
import HandS.Sort
import PyProof.TupleOfSeq
import HandS.Remove
import HandS.SetFor
import HandS.Style
import HandS.RaiseMore
import PyProof.ReprRoads
import HandS.Zip0
import KE.KDictZip
import HandS.TupSets
import KE.DataFind
import KE.KDictList
import KE.KDictSum
import KE.KDictPairs
import KE.GoesMore
import KE.KRevSl
import HandS.Strs
import HandS.List
import HandS.SortKw
import PyProof.Rows.StrInSeq3
import KE.KDictKeyed
import HandS.TryOnly
import HandS.Iter
import KE.KIndexOf
import KE.KBits
import HandS.Text
import PySem.Challenge.RW_drawnweb_k28_what_is_no_table
set_option Elab.async false
set_option linter.all false
set_option maxRecDepth 100000
/-! Mirror values: what a value, a container, a frame stand for, and the readings that a mirror gives. -/
namespace MV
open PySem PySem.Spec PyProof.Rows L2
abbrev Frg := PySem.W.Frag

/-! ### the mirror's world -/
/-- an item of a cell that may hold cells: a datum, or the n-th cell -/
inductive Itm where
  | d (x : PyData)
  | c (n : Nat)
inductive Cell where
  | lst (xs : List PyData)
  | dic (kvs : List (PyData × PyData))
  /-- a dict, a list, an instance of the class named nm, of which an item may be a cell that was made ahead of it -/
  | rcd (kvs : List (Key × Itm))
  | nls (xs : List Itm)
  | ins (nm : Str) (fs : List (Str × Itm))
  /-- a dict whose keys are pairs of numbers -/
  | dtp (kvs : List ((Int × Int) × PyData))
inductive Val where
  /-- a datum -/
  | d (x : PyData)
  /-- the n-th cell of the store -/
  | c (n : Nat)
  /-- a container just made, not yet in the store -/
  | f (k : Cell)
  /-- a list that stands locked (the script) -/
  | z (xs : List PyData)
  /-- cells just made, not yet in the store: the i-th of them -/
  | g (cs : List Cell) (i : Nat)
  /-- a thing of which nothing is told -/
  | x
  /-- the def of the program by the name nm -/
  | o (nm : Str)
  /-- a tuple of which an item may be a cell -/
  | t (its : List Itm)
structure Exn where
  name : Str
  fs : List (Str × PyData)
abbrev Sto := List Cell
abbrev Envi := List (Option Val)
inductive Res (α : Type) where
  | ok (a : α) (S : Sto)
  | exc (e : Exn) (S : Sto)
  | no
def Cell.data : Cell → PyData
  | .lst xs => .list xs
  | .dic kvs => .dict kvs
  | _ => .none
def Val.th : Val → Val
  | .f (.lst xs) => .d (.list xs)
  | .f (.dic kvs) => .d (.dict kvs)
  | .f _ => .x
  | .g _ _ => .x
  | v => v
def Itm.lt (n : Nat) : Itm → Bool
  | .d _ => true
  | .c k => decide (k < n)
/-- the cells that a cell holds stand ahead of n -/
def Cell.lt (n : Nat) : Cell → Bool
  | .rcd kvs => kvs.all fun p => p.2.lt n
  | .nls xs => xs.all (Itm.lt n)
  | .ins _ fs => fs.all fun p => p.2.lt n
  | _ => true
def Res.bind {α β : Type} (r : Res α) (g : α → Sto → Res β) : Res β := match r with
  | .ok a S => g a S
  | .exc e S => .exc e S
  | .no => .no

/-! ### what stands for what -/
/-- a tuple that has no dict of its own, known to the object -/
def tupO (its : List Value) (xs : List V) : HO := .frz { cls := .type "tuple", data := .seq its.toArray } (.tup xs)
def KTup (K : Frg) (a : Addr) (xs : List V) : Prop := ∃ (o : Obj) (its : Array Value) (n : Nat), K.lookup a = some o ∧ o.cls = .type "tuple" ∧ o.dict = none ∧ o.data = .seq its n ∧ its.size ≤ sizeLine ∧ Vals xs its.toList
def LstAt (A : List Addr) (H : Hp) (a : Addr) (xs : List V) : Prop := H a = some (.lst xs) ∧ a ∉ A
def TupH (H : Hp) (a : Addr) (xs : List V) : Prop := ∃ its, H a = some (tupO its xs)
def TupAt (K : Frg) (A : List Addr) (H : Hp) (a : Addr) (xs : List V) : Prop := (TupH H a xs ∧ a ∉ A) ∨ KTup K a xs
def kD : Key → PyData
  | .inl i => .int i
  | .inr x => .str x
mutual
inductive Rp (K : Frg) (A : List Addr) (H : Hp) : V → PyData → Prop
  | non : Rp K A H .non .none
  | bl (b : Bool) : Rp K A H (.bl b) (.bool b)
  | int (i : Int) : Rp K A H (.int i) (.int i)
  | str (x : Str) : Rp K A H (.str x) (.str x)
  | lst {a : Addr} {xs : List V} {ds : List PyData} : LstAt A H a xs → RpL K A H xs ds → Rp K A H (.ref a) (.list ds)
  | tup {a : Addr} {xs : List V} {ds : List PyData} : TupAt K A H a xs → RpL K A H xs ds → Rp K A H (.ref a) (.tuple ds)
  | dic {a : Addr} {kvs : List (Key × V)} {ps : List (PyData × PyData)} : Rd H a (.dK kvs) → a ∉ A → RpD K A H kvs ps → Rp K A H (.ref a) (.dict ps)
inductive RpL (K : Frg) (A : List Addr) (H : Hp) : List V → List PyData → Prop
  | nil : RpL K A H [] []
  | cons {v : V} {vs : List V} {d : PyData} {ds : List PyData} : Rp K A H v d → RpL K A H vs ds → RpL K A H (v :: vs) (d :: ds)
inductive RpD (K : Frg) (A : List Addr) (H : Hp) : List (Key × V) → List (PyData × PyData) → Prop
  | nil : RpD K A H [] []
  | cons {k : Key} {v : V} {kvs : List (Key × V)} {d : PyData} {ps : List (PyData × PyData)} : Rp K A H v d → RpD K A H kvs ps → RpD K A H ((k, v) :: kvs) ((kD k, d) :: ps)
end

abbrev upd1 := @L2.upd
/-- a thing stays as it is, but a dict may be locked for good -/
def Fz (o o' : HO) : Prop := o' = o ∨ ∃ ob kvs, o = .dK kvs ∧ o' = .frz ob (.dK kvs)
theorem Fz.trans {o o1 o2 : HO} (h : Fz o o1) (g : Fz o1 o2) : Fz o o2 := by
  rcases h with rfl | ⟨ob, kvs, rfl, rfl⟩
  · exact g
  · rcases g with rfl | ⟨ob2, kvs2, e, rfl⟩
    · exact .inr ⟨ob, kvs, rfl, rfl⟩
    · cases e
/-- what was read off A stays, and stands off A' -/
def Kp (A : List Addr) (H : Hp) (A' : List Addr) (H' : Hp) : Prop := ∀ b o, H b = some o → b ∉ A → (∃ o', H' b = some o' ∧ Fz o o') ∧ b ∉ A'
theorem kp_same {A A' : List Addr} {H H' : Hp} (h : ∀ b o, H b = some o → b ∉ A → H' b = some o ∧ b ∉ A') : Kp A H A' H' := fun b o e n => ⟨⟨o, (h b o e n).1, .inl rfl⟩, (h b o e n).2⟩
section
variable {K : Frg} {A A' A2 : List Addr} {H H' H2 : Hp} {a : Addr} {xs : List V}
theorem Kp.rd {u : HO} (k : Kp A H A' H') (r : Rd H a u) (n : a ∉ A) : Rd H' a u ∧ a ∉ A' := by
  rcases r with r | ⟨o, r⟩
  · obtain ⟨⟨o', h, f⟩, m⟩ := k _ _ r n
    rcases f with rfl | ⟨ob, kvs, rfl, rfl⟩
    · exact ⟨.inl h, m⟩
    · exact ⟨.inr ⟨_, h⟩, m⟩
  · obtain ⟨⟨o', h, f⟩, m⟩ := k _ _ r n
    rcases f with rfl | ⟨ob, kvs, e, rfl⟩
    · exact ⟨.inr ⟨_, h⟩, m⟩
    · cases e
theorem Kp.lst (k : Kp A H A' H') (r : H a = some (.lst xs)) (n : a ∉ A) : H' a = some (.lst xs) ∧ a ∉ A' := by
  obtain ⟨⟨o', h, f⟩, m⟩ := k _ _ r n
  rcases f with rfl | ⟨ob, kvs, e, rfl⟩
  · exact ⟨h, m⟩
  · cases e
theorem Kp.tup {its : List Value} (k : Kp A H A' H') (r : H a = some (tupO its xs)) (n : a ∉ A) : H' a = some (tupO its xs) ∧ a ∉ A' := by
  obtain ⟨⟨o', h, f⟩, m⟩ := k _ _ r n
  rcases f with rfl | ⟨ob, kvs, e, rfl⟩
  · exact ⟨h, m⟩
  · unfold tupO at e; cases e
theorem LstAt.mono (k : Kp A H A' H') (h : LstAt A H a xs) : LstAt A' H' a xs := k.lst h.1 h.2
theorem TupAt.mono (k : Kp A H A' H') (h : TupAt K A H a xs) : TupAt K A' H' a xs := by
  rcases h with ⟨⟨its, r⟩, n⟩ | h
  · exact .inl ⟨⟨its, (k.tup r n).1⟩, (k.tup r n).2⟩
  · exact .inr h
mutual
theorem Rp.mono (k : Kp A H A' H') : ∀ {v : V} {d : PyData}, Rp K A H v d → Rp K A' H' v d
  | _, _, .non => .non
  | _, _, .bl b => .bl b
  | _, _, .int i => .int i
  | _, _, .str x => .str x
  | _, _, .lst h t => .lst (h.mono k) (RpL.mono k t)
  | _, _, .tup h t => .tup (h.mono k) (RpL.mono k t)
  | _, _, .dic h n t => .dic (k.rd h n).1 (k.rd h n).2 (RpD.mono k t)
theorem RpL.mono (k : Kp A H A' H') : ∀ {v : List V} {d : List PyData}, RpL K A H v d → RpL K A' H' v d
  | _, _, .nil => .nil
  | _, _, .cons h t => .cons (Rp.mono k h) (RpL.mono k t)
theorem RpD.mono (k : Kp A H A' H') : ∀ {v : List (Key × V)} {d : List (PyData × PyData)}, RpD K A H v d → RpD K A' H' v d
  | _, _, .nil => .nil
  | _, _, .cons h t => .cons (Rp.mono k h) (RpD.mono k t)
end
theorem ktup_seq (h : KTup K a xs) : SqT K H a xs := by
  obtain ⟨o, its, n, h1, h2, _, h3, h4, h5⟩ := h
  exact .inr ⟨o, its, n, h1, h2, h3, h4, h5⟩
theorem klst_seq (h : SqL K (fun _ => none) a xs) : SqL K H a xs := by
  rcases h with (h | ⟨o, h⟩) | h
  · cases h
  · cases h
  · exact .inr h
theorem LstAt.seq (h : LstAt A H a xs) : SqL K H a xs := .inl (.inl h.1)
theorem TupAt.seq (h : TupAt K A H a xs) : SqT K H a xs := by
  rcases h with ⟨⟨its, h⟩, _⟩ | h
  · exact .inl (.inr ⟨_, h⟩)
  · exact ktup_seq h
end
section
variable {K : Frg} {A : List Addr} {H : Hp}
theorem RpL.length : ∀ {xs : List V} {ds : List PyData}, RpL K A H xs ds → xs.length = ds.length
  | _, _, .nil => rfl
  | _, _, .cons _ t => by rw [List.length_cons, List.length_cons, RpL.length t]
theorem RpL.get : ∀ {xs : List V} {ds : List PyData} {i : Nat} {d : PyData}, RpL K A H xs ds → ds[i]? = some d → ∃ v, xs[i]? = some v ∧ Rp K A H v d
  | _, _, i, d, .nil, h => by simp at h
  | _, _, 0, d, .cons r _, h => by simp at h; subst h; exact ⟨_, rfl, r⟩
  | _, _, i + 1, d, .cons _ t, h => RpL.get (i := i) t (by simpa using h)
theorem RpL.getV : ∀ {xs : List V} {ds : List PyData} {i : Nat} {v : V}, RpL K A H xs ds → xs[i]? = some v → ∃ d, ds[i]? = some d ∧ Rp K A H v d
  | _, _, i, d, .nil, h => by simp at h
  | _, _, 0, d, .cons r _, h => by simp at h; subst h; exact ⟨_, rfl, r⟩
  | _, _, i + 1, d, .cons _ t, h => RpL.getV (i := i) t (by simpa using h)
theorem RpL.append : ∀ {xs ys : List V} {ds es : List PyData}, RpL K A H xs ds → RpL K A H ys es → RpL K A H (xs ++ ys) (ds ++ es)
  | _, _, _, _, .nil, t => t
  | _, _, _, _, .cons r s, t => .cons r (RpL.append s t)
theorem RpL.take : ∀ {xs : List V} {ds : List PyData} (n : Nat), RpL K A H xs ds → RpL K A H (xs.take n) (ds.take n)
  | _, _, 0, _ => by simp; exact .nil
  | _, _, _ + 1, .nil => by simp; exact .nil
  | _, _, n + 1, .cons r t => .cons r (RpL.take n t)
theorem RpL.drop : ∀ {xs : List V} {ds : List PyData} (n : Nat), RpL K A H xs ds → RpL K A H (xs.drop n) (ds.drop n)
  | _, _, 0, h => h
  | _, _, _ + 1, .nil => by simp; exact .nil
  | _, _, n + 1, .cons _ t => RpL.drop n t
theorem RpL.set {v : V} {d : PyData} (r : Rp K A H v d) : ∀ {xs : List V} {ds : List PyData} (n : Nat), RpL K A H xs ds → RpL K A H (xs.set n v) (ds.set n d)
  | _, _, _, .nil => .nil
  | _, _, 0, .cons _ t => .cons r t
  | _, _, n + 1, .cons q t => .cons q (RpL.set r n t)
theorem RpL.eraseIdx : ∀ {xs : List V} {ds : List PyData} (n : Nat), RpL K A H xs ds → RpL K A H (xs.eraseIdx n) (ds.eraseIdx n)
  | _, _, _, .nil => .nil
  | _, _, 0, .cons _ t => t
  | _, _, n + 1, .cons q t => .cons q (RpL.eraseIdx n t)
theorem RpL.reverse {xs : List V} {ds : List PyData} (h : RpL K A H xs ds) : RpL K A H xs.reverse ds.reverse := by
  induction xs generalizing ds with
  | nil => cases h; exact .nil
  | cons x xs ih => cases h with | cons r t => rw [List.reverse_cons, List.reverse_cons]; exact (ih t).append (.cons r .nil)
theorem RpL.dropLast {xs : List V} {ds : List PyData} (h : RpL K A H xs ds) : RpL K A H xs.dropLast ds.dropLast := by
  rw [List.dropLast_eq_take, List.dropLast_eq_take, h.length]; exact h.take _
theorem RpL.ints : ∀ {xs : List V} {ns : List Int}, RpL K A H xs (ns.map PyData.int) → xs = ns.map V.int
  | _, [], h => by cases h; rfl
  | _, n :: ns, h => by
    have h' : RpL K A H _ (PyData.int n :: ns.map PyData.int) := h
    cases h' with | cons r t => cases r; rw [List.map_cons, RpL.ints t]
theorem RpL.bls : ∀ {xs : List V} {ns : List Bool}, RpL K A H xs (ns.map PyData.bool) → xs = ns.map V.bl
  | _, [], h => by cases h; rfl
  | _, n :: ns, h => by
    have h' : RpL K A H _ (PyData.bool n :: ns.map PyData.bool) := h
    cases h' with | cons r t => cases r; rw [List.map_cons, RpL.bls t]
theorem RpL.of_ints : ∀ (ns : List Int), RpL K A H (ns.map V.int) (ns.map PyData.int)
  | [] => .nil
  | n :: ns => .cons (.int n) (RpL.of_ints ns)
mutual
theorem Rp.dp : ∀ (d : PyData) (v : V), d.canLay0 = true → Rp K A H v d → Dp K H v d
  | .none, _, _, h => by cases h; exact .non
  | .bool b, _, _, h => by cases h; exact .bl b
  | .int i, _, _, h => by cases h; exact .int i
  | .str x, _, _, h => by cases h; exact .str x
  | .list ds, _, c, h => by
    cases h with | lst l t => exact .lst l.seq (RpL.dp ds _ (by simpa [PyData.canLay0] using c) t)
  | .tuple ds, _, c, h => by
    cases h with | tup l t => exact .tup l.seq (RpL.dp ds _ (by simpa [PyData.canLay0] using c) t)
  | .dict _, _, c, _ => by simp [PyData.canLay0] at c
theorem RpL.dp : ∀ (ds : List PyData) (vs : List V), PyData.canLayAll0 ds = true → RpL K A H vs ds → DpAll K H vs ds
  | [], _, _, h => by cases h; exact .nil
  | d :: ds, _, c, h => by
    have c' : d.canLay0 = true ∧ PyData.canLayAll0 ds = true := by simpa [PyData.canLayAll0] using c
    cases h with | cons r t => exact .cons (Rp.dp d _ c'.1 r) (RpL.dp ds _ c'.2 t)
end
end

/-! ### the store -/
/-- the cells' addresses; those of lists that a comprehension is making -/
structure Wd where
  A : List Addr
  P : List Addr
def Wd.V (W : Wd) : List Addr := W.P ++ W.A
def Wd.push (W : Wd) (a : Addr) : Wd := ⟨W.A ++ [a], W.P⟩
def Wd.prot (W : Wd) (a : Addr) : Wd := ⟨W.A, a :: W.P⟩
def Wd.pushs (W : Wd) (as : List Addr) : Wd := ⟨W.A ++ as, W.P⟩
def ItmOk (K : Frg) (W : Wd) (H : Hp) (v : V) : Itm → Prop
  | .d x => Rp K W.V H v x
  | .c n => ∃ a, W.A[n]? = some a ∧ v = .ref a
def CellOk (K : Frg) (W : Wd) (H : Hp) (a : Addr) : Cell → Prop
  | .lst ds => ∃ xs, H a = some (.lst xs) ∧ RpL K W.V H xs ds
  | .dic ps => ∃ kvs, H a = some (.dK kvs) ∧ RpD K W.V H kvs ps
  | .rcd ps => ∃ kvs : List (Key × V), H a = some (.dK kvs) ∧ Paired (fun p q => p.1 = q.1 ∧ ItmOk K W H p.2 q.2) kvs ps
  | .nls ds => ∃ xs, H a = some (.lst xs) ∧ Paired (ItmOk K W H) xs ds
  | .ins nm ps => ∃ C dx fs, PySem.W.nsIn K mainGlobals nm = some (some (.ref C)) ∧ H a = some (.ins C dx fs) ∧ Paired (fun p q => p.1 = q.1 ∧ ItmOk K W H p.2 q.2) fs ps
  | .dtp ps => ∃ kvs : List (List Key × V), H a = some (.dT kvs) ∧ Paired (fun p q => p.1 = [.inl q.1.1, .inl q.1.2] ∧ Rp K W.V H p.2 q.2) kvs ps
structure Wf (K : Frg) (W : Wd) (S : Sto) (H : Hp) : Prop where
  len : W.A.length = S.length
  nd : W.A.Nodup
  lt : ∀ (n : Nat) (k : Cell), S[n]? = some k → k.lt n = true
  ok : ∀ (n : Nat) (a : Addr) (k : Cell), W.A[n]? = some a → S[n]? = some k → CellOk K W H a k
  pr : ∀ p ∈ W.P, p ∉ W.A ∧ ∃ o, H p = some o ∧ Mut (some o)
def Rv (K : Frg) (W : Wd) (H : Hp) (v : V) : Val → Prop
  | .d x => Rp K W.V H v x
  | .c n => ∃ a, W.A[n]? = some a ∧ v = .ref a
  | .f _ => False
  | .g _ _ => False
  | .x => ∃ a, v = .ref a
  | .t its => ∃ a xs, v = .ref a ∧ TupAt K W.V H a xs ∧ Paired (ItmOk K W H) xs its
  | .o nm => ∃ a, PySem.W.nsIn K mainGlobals nm = some (some (.ref a)) ∧ v = .ref a
  | .z ds => ∃ a xs, v = .ref a ∧ ((Rd H a (.lst xs) ∧ a ∉ W.V) ∨ SqL K (fun _ => none) a xs) ∧ RpL K W.V H xs ds
structure REnv (K : Frg) (W : Wd) (H : Hp) (ρ : Envi) (σ : L2.St) : Prop where
  len : σ.length = ρ.length
  get : ∀ (i : Nat) (v : Val), ρ[i]? = some (some v) → ∃ x, σ[i]? = some (some x) ∧ Rv K W H x v
structure Ext (W : Wd) (H : Hp) (W' : Wd) (H' : Hp) : Prop where
  pr : W'.P = W.P
  pre : ∃ B, W'.A = W.A ++ B
  new : ∀ a ∈ W'.A, a ∈ W.A ∨ H a = none
  keep : ∀ b o, H b = some o → b ∉ W.A → ∃ o', H' b = some o' ∧ Fz o o' ∧ (b ∈ W.P → o' = o)
section
variable {K : Frg} {W W' W2 : Wd} {H H' H2 : Hp} {a : Addr} {S S' : Sto} {ρ : Envi} {σ : L2.St}
theorem Wd.mem {b : Addr} : b ∈ W.V ↔ b ∈ W.P ∨ b ∈ W.A := List.mem_append
theorem ext_same {W : Wd} {H H' : Hp} (h : ∀ b o, H b = some o → b ∉ W.A → H' b = some o) : ∀ b o, H b = some o → b ∉ W.A → ∃ o', H' b = some o' ∧ Fz o o' ∧ (b ∈ W.P → o' = o) := fun b o e n => ⟨o, h b o e n, .inl rfl, fun _ => rfl⟩
theorem Ext.keepL (e : Ext W H W' H') {b : Addr} {xs : List V} (h : H b = some (.lst xs)) (n : b ∉ W.A) : H' b = some (.lst xs) := by
  obtain ⟨o', h1, f, _⟩ := e.keep b _ h n
  rcases f with rfl | ⟨ob, kvs, q, rfl⟩
  · exact h1
  · cases q
theorem Ext.keepP (e : Ext W H W' H') {b : Addr} {o : HO} (h : H b = some o) (n : b ∉ W.A) (m : b ∈ W.P) : H' b = some o := by
  obtain ⟨o', h1, f, q⟩ := e.keep b _ h n
  rw [q m] at h1
  exact h1
theorem Ext.there (e : Ext W H W' H') {b : Addr} {o : HO} (h : H b = some o) (n : b ∉ W.A) : ∃ o', H' b = some o' := by
  obtain ⟨o', h1, _⟩ := e.keep b _ h n
  exact ⟨o', h1⟩
theorem Ext.kp (e : Ext W H W' H') : Kp W.V H W'.V H' := fun b o h n => by
  rw [Wd.mem, not_or] at n
  obtain ⟨o', h1, f, _⟩ := e.keep b o h n.2
  refine ⟨⟨o', h1, f⟩, fun m => ?_⟩
  rcases Wd.mem.mp m with q | q
  · rw [e.pr] at q; exact n.1 q
  · rcases e.new b q with q | q
    · exact n.2 q
    · rw [h] at q; cases q
theorem Ext.refl : Ext W H W H := ⟨rfl, ⟨[], by simp⟩, fun _ h => .inl h, ext_same fun _ _ h _ => h⟩
theorem Ext.offA (e : Ext W H W' H') {b : Addr} {o : HO} (h : H b = some o) (n : b ∉ W.A) : b ∉ W'.A := fun q => by
  rcases e.new b q with q | q
  · exact n q
  · rw [h] at q; cases q
theorem Ext.trans (e : Ext W H W' H') (f : Ext W' H' W2 H2) : Ext W H W2 H2 := by
  refine ⟨f.pr.trans e.pr, ?_, fun a h => ?_, fun b o h n => (by
    obtain ⟨o1, h1, f1, p1⟩ := e.keep b o h n
    obtain ⟨o2, h2, f2, p2⟩ := f.keep b o1 h1 (e.offA h n)
    exact ⟨o2, h2, f1.trans f2, fun m => (p2 (by rw [e.pr]; exact m)).trans (p1 m)⟩)⟩
  · obtain ⟨B, h1⟩ := e.pre
    obtain ⟨C, h2⟩ := f.pre
    exact ⟨B ++ C, by rw [h2, h1, List.append_assoc]⟩
  · rcases f.new a h with q | q
    · exact e.new a q
    · cases r : H a with
      | none => exact .inr rfl
      | some o =>
        by_cases m : a ∈ W.A
        · exact .inl m
        · obtain ⟨o', h1⟩ := e.there r m
          rw [h1] at q; cases q
theorem Ext.at_ (e : Ext W H W' H') {n : Nat} (h : W.A[n]? = some a) : W'.A[n]? = some a := by
  obtain ⟨B, e1⟩ := e.pre
  rw [e1, List.getElem?_append_left (List.getElem?_eq_some_iff.mp h).1]; exact h
theorem Rv.mono {v : V} {x : Val} (e : Ext W H W' H') (r : Rv K W H v x) : Rv K W' H' v x := by
  cases x with
  | d x => exact Rp.mono e.kp r
  | c n => obtain ⟨a, h, rfl⟩ := r; exact ⟨a, e.at_ h, rfl⟩
  | f k => exact r
  | g cs i => exact r
  | x => exact r
  | t its => obtain ⟨a, xs, rfl, h, q⟩ := r; exact ⟨a, xs, rfl, h.mono e.kp, Paired.mapP q fun v i z => (match i, z with | .d _, z => Rp.mono e.kp z | .c _, ⟨b, h, ev⟩ => ⟨b, e.at_ h, ev⟩)⟩
  | o nm => exact r
  | z ds => obtain ⟨a, xs, rfl, h, t⟩ := r; exact ⟨a, xs, rfl, h.imp (fun q => e.kp.rd q.1 q.2) id, t.mono e.kp⟩
theorem REnv.mono (e : Ext W H W' H') (r : REnv K W H ρ σ) : REnv K W' H' ρ σ := ⟨r.len, fun i v h => by
  obtain ⟨x, h1, h2⟩ := r.get i v h
  exact ⟨x, h1, h2.mono e⟩⟩
theorem Wf.there (w : Wf K W S H) (h : a ∈ W.V) : ∃ o, H a = some o ∧ Mut (some o) := by
  rcases Wd.mem.mp h with h | h
  · obtain ⟨_, xs, q, mt⟩ := w.pr a h
    exact ⟨_, q, mt⟩
  obtain ⟨n, hn, e⟩ := List.mem_iff_getElem.mp h
  have hs : n < S.length := by rw [← w.len]; exact hn
  have q := w.ok n a S[n] (by rw [List.getElem?_eq_getElem hn, e]) (List.getElem?_eq_getElem hs)
  cases hk : S[n] with
  | lst ds => rw [hk] at q; obtain ⟨xs, h, _⟩ := q; exact ⟨_, h, trivial⟩
  | dic ds => rw [hk] at q; obtain ⟨xs, h, _⟩ := q; exact ⟨_, h, trivial⟩
  | rcd ds => rw [hk] at q; obtain ⟨xs, h, _⟩ := q; exact ⟨_, h, trivial⟩
  | nls ds => rw [hk] at q; obtain ⟨xs, h, _⟩ := q; exact ⟨_, h, trivial⟩
  | ins C ds => rw [hk] at q; obtain ⟨C', dx, fs, _, h, _⟩ := q; exact ⟨_, h, trivial⟩
  | dtp ds => rw [hk] at q; obtain ⟨xs, h, _⟩ := q; exact ⟨_, h, trivial⟩
theorem Wf.off (w : Wf K W S H) (h : H a = none) : a ∉ W.V := fun m => by
  obtain ⟨o, q, _⟩ := w.there m
  rw [h] at q; cases q
theorem Wf.offA (w : Wf K W S H) (h : H a = none) : a ∉ W.A := fun m => w.off h (Wd.mem.mpr (.inr m))
theorem Ext.free (e : Ext W H W' H') (w : Wf K W' S' H') (h : H' a = none) : H a = none := by
  cases q : H a with
  | none => rfl
  | some o =>
    exfalso
    by_cases m : a ∈ W.A
    · obtain ⟨B, e1⟩ := e.pre
      exact w.offA h (by rw [e1]; exact List.mem_append_left _ m)
    · obtain ⟨o', h1⟩ := e.there q m
      rw [h1] at h; cases h
/-- a new thing is laid -/
theorem Ext.laid {o : HO} (h : H a = none) : Ext W H W (upd H a o) := ⟨rfl, ⟨[], by simp⟩, fun _ h => .inl h, ext_same fun b u e _ => by rw [upd_ne (ne_of_none e h)]; exact e⟩
theorem ItmOk.mono {m : Nat} {v : V} {i : Itm} (e : Kp W.V H W'.V H') (hl : i.lt m = true) (hi : ∀ j b, j < m → W.A[j]? = some b → W'.A[j]? = some b) (r : ItmOk K W H v i) : ItmOk K W' H' v i := by
  cases i with
  | d x => exact Rp.mono e r
  | c n => obtain ⟨a, h, rfl⟩ := r; exact ⟨a, hi n a (of_decide_eq_true hl) h, rfl⟩
theorem paired_all {α β : Type} {R R' : α → β → Prop} {p : β → Bool} (h : ∀ x y, p y = true → R x y → R' x y) : ∀ {xs : List α} {ys : List β}, ys.all p = true → Paired R xs ys → Paired R' xs ys
  | _, _, _, .nil => .nil
  | _, y :: ys, q, .cons r t => by
    rw [List.all_cons, Bool.and_eq_true] at q
    exact .cons (h _ _ q.1 r) (paired_all h q.2 t)
theorem CellOk.mono {k : Cell} {m : Nat} (e : Kp W.V H W'.V H') (hk : ∀ o, H a = some o → H' a = some o) (c : CellOk K W H a k) (hl : k.lt m = true) (hi : ∀ j b, j < m → W.A[j]? = some b → W'.A[j]? = some b) : CellOk K W' H' a k := by
  cases k with
  | lst ds => obtain ⟨xs, h, r⟩ := c; exact ⟨xs, hk _ h, r.mono e⟩
  | dic ds => obtain ⟨xs, h, r⟩ := c; exact ⟨xs, hk _ h, r.mono e⟩
  | rcd ds => obtain ⟨xs, h, r⟩ := c; exact ⟨xs, hk _ h, paired_all (p := fun q : Key × Itm => q.2.lt m) (fun _ _ q r => ⟨r.1, r.2.mono e q hi⟩) hl r⟩
  | nls ds => obtain ⟨xs, h, r⟩ := c; exact ⟨xs, hk _ h, paired_all (fun _ _ q r => r.mono e q hi) hl r⟩
  | ins C ds => obtain ⟨C', dx, xs, g, h, r⟩ := c; exact ⟨C', dx, xs, g, hk _ h, paired_all (p := fun q : Str × Itm => q.2.lt m) (fun _ _ q r => ⟨r.1, r.2.mono e q hi⟩) hl r⟩
  | dtp ds => obtain ⟨xs, h, r⟩ := c; exact ⟨xs, hk _ h, Paired.mapP r fun _ _ z => ⟨z.1, z.2.mono e⟩⟩
theorem Wf.laid (w : Wf K W S H) {o : HO} (h : H a = none) : Wf K W S (upd H a o) := ⟨w.len, w.nd, w.lt, fun n b k h1 h2 =>
  (w.ok n b k h1 h2).mono (Ext.laid h).kp (fun u e => by rw [upd_ne (ne_of_none e h)]; exact e) (w.lt n k h2) (fun _ _ _ h => h), fun p hp => by
    obtain ⟨q, xs, e, mt⟩ := w.pr p hp
    exact ⟨q, xs, by rw [upd_ne (ne_of_none e h)]; exact e, mt⟩⟩
theorem kp_less (h : ∀ b, b ∈ W'.V → b ∈ W.V) : Kp W.V H W'.V H := kp_same fun b _ q n => ⟨q, fun m => n (h b m)⟩
theorem push_V {b : Addr} : b ∈ (W.push a).V ↔ b ∈ W.V ∨ b = a := by
  rw [Wd.mem, Wd.mem]
  show b ∈ W.P ∨ b ∈ W.A ++ [a] ↔ _
  rw [List.mem_append, List.mem_singleton, or_assoc]
theorem prot_V {b : Addr} : b ∈ (W.prot a).V ↔ b ∈ W.V ∨ b = a := by
  rw [Wd.mem, Wd.mem]
  show b ∈ a :: W.P ∨ b ∈ W.A ↔ _
  rw [List.mem_cons]
  constructor
  · rintro ((h | h) | h)
    · exact .inr h
    · exact .inl (.inl h)
    · exact .inl (.inr h)
  · rintro ((h | h) | h)
    · exact .inl (.inr h)
    · exact .inr h
    · exact .inl (.inl h)
/-- one more cell -/
theorem Wf.drop1 {k : Cell} (w : Wf K (W.push a) (S ++ [k]) H) : Wf K W S H ∧ CellOk K W H a k ∧ a ∉ W.V := by
  have hl : W.A.length = S.length := by simpa [Wd.push] using w.len
  have ix : ∀ m, m ≤ S.length → ∀ j b, j < m → (W.push a).A[j]? = some b → W.A[j]? = some b := fun m hm j b hj h => by
    have h : (W.A ++ [a])[j]? = some b := h
    rwa [List.getElem?_append_left (by omega)] at h
  have lt1 : ∀ (n : Nat) (k' : Cell), S[n]? = some k' → (S ++ [k])[n]? = some k' := fun n k' h => by
    rw [List.getElem?_append_left (List.getElem?_eq_some_iff.mp h).1]; exact h
  have ka : Kp (W.push a).V H W.V H := kp_less fun b m => push_V.mpr (.inl m)
  have nd := w.nd
  unfold Wd.push at nd
  dsimp only at nd
  rw [List.nodup_append] at nd
  refine ⟨⟨hl, nd.1, fun n k' h => w.lt n k' (lt1 n k' h), fun n b u h1 h2 => ?_, fun p hp => ?_⟩, ?_, fun m => ?_⟩
  · have hn := (List.getElem?_eq_some_iff.mp h2).1
    refine (w.ok n b u ?_ ?_).mono ka (fun _ h => h) (w.lt n u (lt1 n u h2)) (ix n (Nat.le_of_lt hn))
    · show (W.A ++ [a])[n]? = _
      rw [List.getElem?_append_left (List.getElem?_eq_some_iff.mp h1).1]; exact h1
    · exact lt1 n u h2
  · obtain ⟨q, r⟩ := w.pr p hp
    exact ⟨fun m => q (List.mem_append_left _ m), r⟩
  · have e : (S ++ [k])[W.A.length]? = some k := by rw [hl]; simp
    exact (w.ok W.A.length a k (by simp [Wd.push]) e).mono ka (fun _ h => h) (w.lt _ k e) (ix _ (Nat.le_of_eq hl))
  · rcases Wd.mem.mp m with m | m
    · exact (w.pr a m).1 (List.mem_append_right _ (by simp))
    · exact nd.2.2 a m a (by simp) rfl
theorem Cell.th {k : Cell} (c : CellOk K W H a k) (n : a ∉ W.V) : Rv K W H (.ref a) (Val.f k).th := by
  cases k with
  | lst ds => obtain ⟨xs, h, r⟩ := c; exact Rp.lst ⟨h, n⟩ r
  | dic ds => obtain ⟨xs, h, r⟩ := c; exact Rp.dic (.inl h) n r
  | rcd ds => exact ⟨a, rfl⟩
  | nls ds => exact ⟨a, rfl⟩
  | ins C ds => exact ⟨a, rfl⟩
  | dtp ds => exact ⟨a, rfl⟩
theorem Ext.push (h : H a = none) (w : Wf K W S H) {o : HO} : Ext W H (W.push a) (upd H a o) := by
  refine ⟨rfl, ⟨[a], rfl⟩, fun b m => ?_, ext_same fun b u e _ => by rw [upd_ne (ne_of_none e h)]; exact e⟩
  rcases List.mem_append.mp m with m | m
  · exact .inl m
  · rw [List.mem_singleton.mp m]; exact .inr h
theorem Ext.grow (e : Ext W H W H') (h : H a = none) : Ext W H (W.push a) H' := by
  refine ⟨rfl, ⟨[a], rfl⟩, fun b m => ?_, e.keep⟩
  rcases List.mem_append.mp m with m | m
  · exact .inl m
  · rw [List.mem_singleton.mp m]; exact .inr h
/-- a new cell is laid -/
theorem lt_push {k : Cell} (lt : ∀ (n : Nat) (k : Cell), S[n]? = some k → k.lt n = true) (hk : k.lt S.length = true) (n : Nat) (u : Cell) (h : (S ++ [k])[n]? = some u) : u.lt n = true := by
  by_cases hn : n < S.length
  · rw [List.getElem?_append_left hn] at h; exact lt n u h
  · have e : n = S.length := by
      have := (List.getElem?_eq_some_iff.mp h).1
      simp at this
      omega
    subst e
    simp at h
    subst h
    exact hk
theorem ix_push {m : Nat} (j : Nat) (b : Addr) (h : W.A[j]? = some b) : (W.push a).A[j]? = some b := by
  show (W.A ++ [a])[j]? = some b
  rw [List.getElem?_append_left (List.getElem?_eq_some_iff.mp h).1]; exact h
theorem Wf.new {k : Cell} {o : HO} (w : Wf K W S H) (h : H a = none) (c : CellOk K (W.push a) (upd1 H a o) a k) (hk : k.lt S.length = true := by rfl) : Wf K (W.push a) (S ++ [k]) (upd1 H a o) := by
  refine ⟨by simp [Wd.push, w.len], ?_, lt_push w.lt hk, fun n b u h1 h2 => ?_, fun p hp => ?_⟩
  · show (W.A ++ [a]).Nodup
    rw [List.nodup_append]
    exact ⟨w.nd, by simp, fun x hx y hy e => by rw [List.mem_singleton.mp hy] at e; exact w.offA h (e ▸ hx)⟩
  · have h1' : (W.A ++ [a])[n]? = some b := h1
    by_cases hn : n < W.A.length
    · rw [List.getElem?_append_left hn] at h1'
      rw [List.getElem?_append_left (by rw [← w.len]; exact hn)] at h2
      refine (w.ok n b u h1' h2).mono (Ext.push h w).kp (fun v q => ?_) (w.lt n u h2) fun j b _ h => ix_push (m := n) j b h
      rw [show upd1 H a o = upd H a o from rfl, upd_ne (ne_of_none q h)]; exact q
    · have e : n = W.A.length := by
        have := (List.getElem?_eq_some_iff.mp h1').1
        simp at this
        omega
      subst e
      rw [w.len] at h2
      simp at h1' h2
      subst h1' h2
      exact c
  · obtain ⟨q, xs, e, mt⟩ := w.pr p hp
    refine ⟨fun m => ?_, xs, by rw [show upd1 H a o = upd H a o from rfl, upd_ne (ne_of_none e h)]; exact e, mt⟩
    rcases List.mem_append.mp m with m | m
    · exact q m
    · rw [List.mem_singleton.mp m, h] at e; cases e
/-- a cell is changed -/
theorem kp_upd {o : HO} (m : a ∈ W.A) : Kp W.V H W.V (upd H a o) := kp_same fun b u h n => ⟨by rw [upd_ne (fun e => n (by rw [e]; exact Wd.mem.mpr (.inr m)))]; exact h, n⟩
theorem Wf.upd {n : Nat} {o : HO} {k : Cell} (w : Wf K W S H) (h : W.A[n]? = some a) (c : CellOk K W (upd H a o) a k) (hk : k.lt n = true := by rfl) : Wf K W (S.set n k) (upd H a o) := by
  have m : a ∈ W.A := List.mem_of_getElem? h
  refine ⟨by rw [List.length_set]; exact w.len, w.nd, fun j u h2 => ?_, fun j b u h1 h2 => ?_, fun p hp => ?_⟩
  · by_cases e : j = n
    · subst e
      rw [List.getElem?_set_self (by have := (List.getElem?_eq_some_iff.mp h2).1; rwa [List.length_set] at this)] at h2
      cases h2; exact hk
    · rw [List.getElem?_set_ne (Ne.symm e)] at h2
      exact w.lt j u h2
  · by_cases e : j = n
    · subst e
      rw [h] at h1; cases h1
      rw [List.getElem?_set_self (by have := (List.getElem?_eq_some_iff.mp h).1; rw [← w.len]; exact this)] at h2
      cases h2; exact c
    · rw [List.getElem?_set_ne (Ne.symm e)] at h2
      refine (w.ok j b u h1 h2).mono (kp_upd m) (fun v q => ?_) (w.lt j u h2) fun _ _ _ h => h
      have hb : b ≠ a := fun z => by
        subst z
        exact e ((List.getElem?_inj (List.getElem?_eq_some_iff.mp h1).1 w.nd).mp (h1.trans h.symm))
      rw [upd_ne hb]; exact q
  · obtain ⟨q, xs, e, mt⟩ := w.pr p hp
    exact ⟨q, xs, by rw [upd_ne (fun z => q (by rw [z]; exact m))]; exact e, mt⟩
theorem Ext.upd {o : HO} (m : a ∈ W.A) : Ext W H W (upd H a o) := ⟨rfl, ⟨[], by simp⟩, fun _ h => .inl h, ext_same fun b u h n => by rw [upd_ne (fun z => n (by rw [z]; exact m))]; exact h⟩
/-- at a def's end: its own cells go -/
theorem Ext.less {B : List Addr} (e : Ext W H W' H') : Ext W H W H' := ⟨rfl, ⟨[], by simp⟩, fun _ h => .inl h, e.keep⟩
theorem Wf.less (w : Wf K W' S H') (e : Ext W H W' H') : Wf K W (S.take W.A.length) H' := by
  obtain ⟨B, h1⟩ := e.pre
  have ka : Kp W'.V H' W.V H' := kp_less fun b m => by
    rw [Wd.mem] at m ⊢
    rw [e.pr, h1]
    exact m.imp id fun m => List.mem_append_left _ m
  have hl : W.A.length ≤ S.length := by rw [← w.len, h1]; simp
  have nd := w.nd
  rw [h1] at nd
  have tk : ∀ (n : Nat) (u : Cell), (S.take W.A.length)[n]? = some u → n < W.A.length ∧ S[n]? = some u := fun n u h3 => by
    have hn := (List.getElem?_eq_some_iff.mp h3).1
    rw [List.length_take] at hn
    rw [List.getElem?_take_of_lt (by omega)] at h3
    exact ⟨by omega, h3⟩
  refine ⟨by rw [List.length_take]; omega, (List.nodup_append.mp nd).1, fun n u h3 => w.lt n u (tk n u h3).2, fun n b u h2 h3 => ?_, fun p hp => ?_⟩
  · obtain ⟨hn, h4⟩ := tk n u h3
    refine (w.ok n b u ?_ h4).mono ka (fun _ h => h) (w.lt n u h4) fun j c hj h => ?_
    · rw [h1, List.getElem?_append_left hn]; exact h2
    · rw [h1, List.getElem?_append_left (by omega)] at h; exact h
  · obtain ⟨q, r⟩ := w.pr p (by rw [e.pr]; exact hp)
    exact ⟨fun m => q (by rw [h1]; exact List.mem_append_left _ m), r⟩
/-- .. but one that is handed on -/
theorem Wf.pick {j : Nat} {k : Cell} (w : Wf K W' S H') (e : Ext W H W' H') (hj : W.A.length ≤ j) (h : W'.A[j]? = some a) (hk : S[j]? = some k) (hlk : k.lt W.A.length = true) : Wf K (W.push a) (S.take W.A.length ++ [k]) H' ∧ H a = none := by
  obtain ⟨B, h1⟩ := e.pre
  have hw := w.less e
  have na : a ∉ W.A := fun m => by
    obtain ⟨n, hn, q⟩ := List.mem_iff_getElem.mp m
    have z : W'.A[n]? = some a := by rw [h1, List.getElem?_append_left hn, List.getElem?_eq_getElem hn, q]
    have := (List.getElem?_inj (by rw [h1, List.length_append]; omega) w.nd).mp (z.trans h.symm)
    omega
  have ma : a ∈ W'.A := List.mem_of_getElem? h
  have ix : ∀ m, m ≤ W.A.length → ∀ j b, j < m → W'.A[j]? = some b → (W.push a).A[j]? = some b := fun m hm j b hj h => by
    rw [h1, List.getElem?_append_left (by omega)] at h
    exact ix_push (m := m) j b h
  refine ⟨⟨by simp [Wd.push, ← hw.len], ?_, lt_push hw.lt (by rw [← hw.len]; exact hlk), fun n b u h2 h3 => ?_, fun p hp => ?_⟩, ?_⟩
  · show (W.A ++ [a]).Nodup
    rw [List.nodup_append]
    exact ⟨hw.nd, by simp, fun x hx y hy e => by rw [List.mem_singleton.mp hy] at e; exact na (e ▸ hx)⟩
  · have kp : Kp W'.V H' (W.push a).V H' := kp_less fun b m => by
      rw [push_V, Wd.mem] at m
      rw [Wd.mem, e.pr, h1]
      rcases m with (m | m) | m
      · exact .inl m
      · exact .inr (List.mem_append_left _ m)
      · rw [m, ← h1]; exact .inr ma
    have h2' : (W.A ++ [a])[n]? = some b := h2
    by_cases hn : n < W.A.length
    · rw [List.getElem?_append_left hn] at h2'
      rw [List.getElem?_append_left (by rw [← hw.len]; exact hn), List.getElem?_take_of_lt hn] at h3
      exact (w.ok n b u (by rw [h1, List.getElem?_append_left hn]; exact h2') h3).mono kp (fun _ h => h) (w.lt n u h3) (ix n (Nat.le_of_lt hn))
    · have e2 : n = W.A.length := by
        have := (List.getElem?_eq_some_iff.mp h2').1
        simp at this
        omega
      subst e2
      rw [List.getElem?_append_right (by rw [← hw.len]; exact Nat.le_refl _), ← hw.len] at h3
      simp at h2' h3
      subst h2' h3
      exact (w.ok j a k h hk).mono kp (fun _ h => h) hlk (ix _ (Nat.le_refl _))
  · obtain ⟨q, r⟩ := w.pr p (by rw [e.pr]; exact hp)
    refine ⟨fun m => ?_, r⟩
    rcases List.mem_append.mp m with m | m
    · exact q (by rw [h1]; exact List.mem_append_left _ m)
    · rw [List.mem_singleton.mp m] at q; exact q ma
  · rcases e.new a ma with q | q
    · exact (na q).elim
    · exact q
end
end MV
set_option Elab.async false
set_option linter.all false
set_option maxRecDepth 100000
/-! Readings by mirrors: expressions, arguments, tests, statements. -/
namespace MV
open PySem PySem.Spec PyProof.Rows L2

/-! ### ends -/
def Post (K : Frg) (A : Wd) (H : Hp) (Q : VK) : Res Val → Prop
  | .ok (.d x) S => ∀ v H', Ext A H A H' → Wf K A S H' → Rp K A.V H' v x → Q v H'
  | .ok (.c n) S => ∀ a H', Ext A H A H' → Wf K A S H' → A.A[n]? = some a → Q (.ref a) H'
  | .ok (.f k) S => ∀ a H', Ext A H A H' → Wf K (A.push a) (S ++ [k]) H' → H a = none → Q (.ref a) H'
  | .ok (.z ds) S => ∀ v H', Ext A H A H' → Wf K A S H' → Rv K A H' v (.z ds) → Q v H'
  | .ok (.g cs i) S => ∀ as a H', Ext A H A H' → Wf K (A.pushs as) (S ++ cs) H' → (∀ b ∈ as, H b = none) → as.length = cs.length → as[i]? = some a → Q (.ref a) H'
  | .ok .x S => ∀ a H', Ext A H A H' → Wf K A S H' → Q (.ref a) H'
  | .ok (.t its) S => ∀ v H', Ext A H A H' → Wf K A S H' → Rv K A H' v (.t its) → Q v H'
  | .ok (.o nm) S => ∀ a H', Ext A H A H' → Wf K A S H' → PySem.W.nsIn K mainGlobals nm = some (some (.ref a)) → Q (.ref a) H'
  | .exc _ _ => False
  | .no => False
def RvL (K : Frg) (A : Wd) (H : Hp) : List V → List Val → Prop := Paired (Rv K A H)
def PostA (K : Frg) (A : Wd) (H : Hp) (Q : List V → Hp → Prop) : Res (List Val) → Prop
  | .ok vs S => ∀ xs H', Ext A H A H' → Wf K A S H' → RvL K A H' xs vs → Q xs H'
  | .exc _ _ => False
  | .no => False
def PostB (K : Frg) (A : Wd) (H : Hp) (Q : Bool → Hp → Prop) : Res Bool → Prop
  | .ok b S => ∀ H', Ext A H A H' → Wf K A S H' → Q b H'
  | .exc _ _ => False
  | .no => False
inductive Fw where
  | nx (ρ : Envi)
  | rt (v : Val)
  | bk (ρ : Envi)
  | ct (ρ : Envi)
def PostR (K : Frg) (A : Wd) (S : Sto) (H : Hp) (Q : VK) : Val → Prop
  | .d x => ∀ A' v H', Ext A H A' H' → Wf K A' S H' → Rp K A'.V H' v x → Q v H'
  | .c n => ∀ A' a H', Ext A H A' H' → Wf K A' S H' → A'.A[n]? = some a → Q (.ref a) H'
  | .f k => ∀ A' a H', Ext A H A' H' → Wf K (A'.push a) (S ++ [k]) H' → H a = none → Q (.ref a) H'
  | .z ds => ∀ A' v H', Ext A H A' H' → Wf K A' S H' → Rv K A' H' v (.z ds) → Q v H'
  | .g cs i => ∀ A' as a H', Ext A H A' H' → Wf K (A'.pushs as) (S ++ cs) H' → (∀ b ∈ as, H b = none) → as.length = cs.length → as[i]? = some a → Q (.ref a) H'
  | .x => ∀ A' a H', Ext A H A' H' → Wf K A' S H' → Q (.ref a) H'
  | .t its => ∀ A' v H', Ext A H A' H' → Wf K A' S H' → Rv K A' H' v (.t its) → Q v H'
  | .o nm => ∀ A' a H', Ext A H A' H' → Wf K A' S H' → PySem.W.nsIn K mainGlobals nm = some (some (.ref a)) → Q (.ref a) H'
theorem Ext.grows {K : Frg} {W : Wd} {H H' : Hp} {as : List Addr} (e : Ext W H W H') (h : ∀ b ∈ as, H b = none) : Ext W H (W.pushs as) H' := by
  refine ⟨rfl, ⟨as, rfl⟩, fun b m => ?_, e.keep⟩
  rcases List.mem_append.mp m with m | m
  · exact .inl m
  · exact .inr (h b m)
theorem Wf.drops {K : Frg} {W : Wd} {H H' : Hp} {S cs : Sto} {as : List Addr} (w : Wf K (W.pushs as) (S ++ cs) H') (e : Ext W H W H') (h : ∀ b ∈ as, H b = none) (hl : as.length = cs.length) : Wf K W S H' := by
  have z := w.less (e.grows (K := K) h)
  have l := w.len
  have l2 : W.A.length = S.length := by
    simp [Wd.pushs] at l
    omega
  rw [l2, List.take_left' rfl] at z
  exact z
def PostS (K : Frg) (A : Wd) (H : Hp) (D : Ends) : Res Fw → Prop
  | .ok (.nx ρ) S => ∀ A' σ' H', Ext A H A' H' → Wf K A' S H' → REnv K A' H' ρ σ' → D.nx σ' H'
  | .ok (.bk ρ) S => ∀ A' σ' H', Ext A H A' H' → Wf K A' S H' → REnv K A' H' ρ σ' → D.bk σ' H'
  | .ok (.ct ρ) S => ∀ A' σ' H', Ext A H A' H' → Wf K A' S H' → REnv K A' H' ρ σ' → D.ct σ' H'
  | .ok (.rt v) S => PostR K A S H D.rt v
  | .exc _ _ => False
  | .no => False
section
variable {K : Frg} {A A' A2 : Wd} {H H' H2 : Hp} {S S' : Sto} {Q Q' : VK} {ρ : Envi} {σ : L2.St} {D : Ends}
theorem RvL.mono {xs : List V} {vs : List Val} (e : Ext A H A' H') (r : RvL K A H xs vs) : RvL K A' H' xs vs := Paired.mapP r fun _ _ h => h.mono e
/-- an end, whatever the value: its thing -/
theorem Post.th {v : Val} (h : ∀ x H', Ext A H A H' → Wf K A S H' → Rv K A H' x v.th → Q x H') : Post K A H Q (.ok v S) := by
  cases v with
  | d x => exact fun v H' e w r => h v H' e w r
  | c n => exact fun a H' e w r => h _ H' e w ⟨a, r, rfl⟩
  | f k => exact fun a H' e w r => h _ H' e w.drop1.1 (Cell.th w.drop1.2.1 w.drop1.2.2)
  | z ds => exact fun v H' e w r => h v H' e w r
  | g cs i => exact fun as a H' e w q l _ => h _ H' e (w.drops e q l) ⟨a, rfl⟩
  | x => exact fun a H' e w => h _ H' e w ⟨a, rfl⟩
  | t its => exact fun v H' e w r => h v H' e w r
  | o nm => exact fun a H' e w r => h _ H' e w ⟨a, r, rfl⟩
theorem Post.seq {β : Type} {P : Res β → Prop} {r : Res Val} {g : Val → Sto → Res β} (h : P (r.bind g)) (h0 : P .no → False) (h1 : ∀ e S, P (.exc e S) → False)
    (k : ∀ v S1 x H1, Ext A H A H1 → Wf K A S1 H1 → Rv K A H1 x v.th → P (g v S1) → Q x H1) : Post K A H Q r := by
  cases r with
  | ok v S1 => exact Post.th fun x H1 e w r => k v S1 x H1 e w r h
  | exc e S => exact (h1 _ _ h).elim
  | no => exact (h0 h).elim
theorem PostA.seq {β : Type} {P : Res β → Prop} {Q : List V → Hp → Prop} {r : Res (List Val)} {g : List Val → Sto → Res β} (h : P (r.bind g)) (h0 : P .no → False) (h1 : ∀ e S, P (.exc e S) → False)
    (k : ∀ v S1 x H1, Ext A H A H1 → Wf K A S1 H1 → RvL K A H1 x v → P (g v S1) → Q x H1) : PostA K A H Q r := by
  cases r with
  | ok v S1 => exact fun x H1 e w r => k v S1 x H1 e w r h
  | exc e S => exact (h1 _ _ h).elim
  | no => exact (h0 h).elim
theorem PostB.seq {β : Type} {P : Res β → Prop} {Q : Bool → Hp → Prop} {r : Res Bool} {g : Bool → Sto → Res β} (h : P (r.bind g)) (h0 : P .no → False) (h1 : ∀ e S, P (.exc e S) → False)
    (k : ∀ v S1 H1, Ext A H A H1 → Wf K A S1 H1 → P (g v S1) → Q v H1) : PostB K A H Q r := by
  cases r with
  | ok v S1 => exact fun H1 e w => k v S1 H1 e w h
  | exc e S => exact (h1 _ _ h).elim
  | no => exact (h0 h).elim
theorem Post.shift {r : Res Val} (h : Post K A H Q r) (e : Ext A H A H2) (w : Wf K A S H2) : Post K A H2 Q r := by
  cases r with
  | ok v S1 =>
    cases v with
    | d x => exact fun v H' e' w' r => h v H' (e.trans e') w' r
    | c n => exact fun a H' e' w' r => h a H' (e.trans e') w' r
    | f k => exact fun a H' e' w' r => h a H' (e.trans e') w' (e.free w r)
    | z ds => exact fun v H' e' w' r => h v H' (e.trans e') w' r
    | g cs i => exact fun as a H' e' w' q l j => h as a H' (e.trans e') w' (fun b hb => e.free w (q b hb)) l j
    | x => exact fun v H' e' w' => h v H' (e.trans e') w'
    | t its => exact fun v H' e' w' r => h v H' (e.trans e') w' r
    | o nm => exact fun v H' e' w' r => h v H' (e.trans e') w' r
  | exc _ _ => exact h
  | no => exact h
theorem PostA.shift {Q : List V → Hp → Prop} {r : Res (List Val)} (h : PostA K A H Q r) (e : Ext A H A H2) : PostA K A H2 Q r := by
  cases r with
  | ok v S1 => exact fun v H' e' w' r => h v H' (e.trans e') w' r
  | exc _ _ => exact h
  | no => exact h
theorem PostB.shift {Q : Bool → Hp → Prop} {r : Res Bool} (h : PostB K A H Q r) (e : Ext A H A H2) : PostB K A H2 Q r := by
  cases r with
  | ok v S1 => exact fun H' e' w' => h H' (e.trans e') w'
  | exc _ _ => exact h
  | no => exact h
theorem PostR.shift {v : Val} {Q : VK} (h : PostR K A S H Q v) (e : Ext A H A2 H2) (w : Wf K A2 S' H2) : PostR K A2 S H2 Q v := by
  cases v with
  | d x => exact fun A' v H' e' w' r => h A' v H' (e.trans e') w' r
  | c n => exact fun A' a H' e' w' r => h A' a H' (e.trans e') w' r
  | f k => exact fun A' a H' e' w' r => h A' a H' (e.trans e') w' (e.free w r)
  | z ds => exact fun A' v H' e' w' r => h A' v H' (e.trans e') w' r
  | g cs i => exact fun A' as a H' e' w' q l j => h A' as a H' (e.trans e') w' (fun b hb => e.free w (q b hb)) l j
  | x => exact fun A' v H' e' w' => h A' v H' (e.trans e') w'
  | t its => exact fun A' v H' e' w' r => h A' v H' (e.trans e') w' r
  | o nm => exact fun A' v H' e' w' r => h A' v H' (e.trans e') w' r
theorem PostS.shift {r : Res Fw} (h : PostS K A H D r) (e : Ext A H A2 H2) (w : Wf K A2 S H2) : PostS K A2 H2 D r := by
  cases r with
  | ok f S1 =>
    cases f with
    | nx ρ => exact fun A' v H' e' w' r => h A' v H' (e.trans e') w' r
    | bk ρ => exact fun A' v H' e' w' r => h A' v H' (e.trans e') w' r
    | ct ρ => exact fun A' v H' e' w' r => h A' v H' (e.trans e') w' r
    | rt v => exact PostR.shift (v := v) h e w
  | exc _ _ => exact h
  | no => exact h
end

/-! ### readings -/
abbrev Sx := Envi → Sto → Res Val
abbrev SA := Envi → Sto → Res (List Val)
abbrev SB := Envi → Sto → Res Bool
abbrev Ss := Envi → Sto → Res Fw
def At (K : Frg) (σ : L2.St) (H : Hp) (P : Wd → Envi → Sto → Prop) : Prop := ∃ A S ρ, Wf K A S H ∧ REnv K A H ρ σ ∧ P A ρ S
def tE (K : Frg) (f : Sx) : TE := fun σ H Q => At K σ H fun A ρ S => Post K A H Q (f ρ S)
def tAr (K : Frg) (f : SA) : TA := fun σ H Q => At K σ H fun A ρ S => PostA K A H Q (f ρ S)
def tB (K : Frg) (f : SB) : TT := fun σ H Q => At K σ H fun A ρ S => PostB K A H Q (f ρ S)
def tS (K : Frg) (f : Ss) : TS := fun D σ H => At K σ H fun A ρ S => PostS K A H D (f ρ S)
section
variable {X : Cx}
theorem PEi {e : Expr} {t t' : TE} (h : PE X e t) (i : ∀ σ H Q, t' σ H Q → t σ H Q) : PE X e t' := ⟨fun pins s σ H Q I q => h.run pins s σ H Q I (i σ H Q q)⟩
theorem PTi {e : Expr} {t t' : TT} (h : PT X e t) (i : ∀ σ H Q, t' σ H Q → t σ H Q) : PT X e t' := ⟨fun pins s σ H Q I q => h.run pins s σ H Q I (i σ H Q q)⟩
theorem PWi {e : Expr} {t t' : TT} (h : PW X e t) (i : ∀ σ H Q, t' σ H Q → t σ H Q) : PW X e t' := ⟨fun wh pins s σ H Q I q => h.run wh pins s σ H Q I (i σ H Q q)⟩
theorem PAi {e : List Expr} {t t' : TA} (h : PA X e t) (i : ∀ σ H Q, t' σ H Q → t σ H Q) : PA X e t' := ⟨fun pos pins s σ H Q I q => h.run pos pins s σ H Q I (i σ H Q q)⟩
theorem PSi {e : Stmt} {t t' : TS} (h : PS X e t) (i : ∀ D σ H, t' D σ H → t D σ H) : PS X e t' := ⟨fun pins s σ H D I q => h.run pins s σ H D I (i D σ H q)⟩
theorem PSsi {e : List Stmt} {t t' : TS} (h : PSs X e t) (i : ∀ D σ H, t' D σ H → t D σ H) : PSs X e t' := ⟨fun pins s σ H D I q => h.run pins s σ H D I (i D σ H q)⟩

/-! ### names, constants -/
def evV (i : Nat) : Sx := fun ρ S => match ρ[i]? with
  | some (some v) => .ok v S
  | _ => .no
def evK (x : PyData) : Sx := fun _ S => .ok (.d x) S
theorem Post.val {K : Frg} {A : Wd} {H : Hp} {S : Sto} {Q : VK} {v : Val} {x : V} (w : Wf K A S H) (r : Rv K A H x v) (h : Post K A H Q (.ok v S)) : Q x H := by
  cases v with
  | d y => exact h x H .refl w r
  | c n => obtain ⟨a, e, rfl⟩ := r; exact h a H .refl w e
  | f k => exact r.elim
  | z ds => exact h x H .refl w r
  | g cs i => exact r.elim
  | x => obtain ⟨a, rfl⟩ := r; exact h a H .refl w
  | t its => exact h x H .refl w r
  | o nm => obtain ⟨a, e, rfl⟩ := r; exact h a H .refl w e
theorem eV (i : Nat) {x : Str} {pos : Pos} (hN : X.N[i]? = some x := by rfl) (hv : Vis X.env.scope x := by first | exact Or.inl rfl | exact Or.inr (Or.inl rfl) | exact Or.inr (Or.inr rfl)) (hd : (x == ("__debug__" : Str)) = false := by decide)
    (hcd : (x == ("__classdict__" : Str)) = false := by decide) : PE X (.Name x pos) (tE X.K (evV i)) := PEi (pe_var hN hv hd hcd) fun σ H Q ⟨A, S, ρ, w, env, p⟩ => by
  dsimp only [evV] at p
  split at p
  · rename_i v h
    obtain ⟨y, h1, h2⟩ := env.get i v h
    exact ⟨y, h1, Post.val w h2 p⟩
  · exact p.elim
theorem eC {e : Expr} {v : V} {x : PyData} (h : PE X e (tC v)) (r : ∀ A H, Rp X.K A H v x) : PE X e (tE X.K (evK x)) := PEi h fun σ H Q ⟨A, S, ρ, w, env, p⟩ => p v H .refl w (r A.V H)
theorem eInt {i : Int} {j pos} : PE X (.Constant (.int i) j pos) (tE X.K (evK (.int i))) := eC pe_int fun _ _ => .int i
theorem eBl {i : Bool} {j pos} : PE X (.Constant (.bool i) j pos) (tE X.K (evK (.bool i))) := eC pe_bl fun _ _ => .bl i
theorem eStr {i : Str} {j pos} : PE X (.Constant (.str i) j pos) (tE X.K (evK (.str i))) := eC pe_str fun _ _ => .str i
theorem eNon {j pos} : PE X (.Constant .none j pos) (tE X.K (evK .none)) := eC pe_non fun _ _ => .non

/-! ### operators by values -/
def ORul (X : Cx) (f : Value → Value → Sem Value) (g : Val → Val → Sto → Res Val) : Prop :=
  ∀ (pins : List (Addr × Obj)) (s : Shared) (σ : L2.St) (A : Wd) (S : Sto) (H : Hp) (x y : V) (a b : Value) (v w : Val) (Q : VK), Inv X pins σ H s → Wf X.K A S H → Rv X.K A H x v → Rv X.K A H y w → RelV x a → RelV y b →
    Post X.K A H Q (g v w S) → wpAny (model X.prog X.w) X.A (f a b) (EP X pins σ Q) X.xe s
def rO (K : Frg) (g : Val → Val → Sto → Res Val) : R2 := fun x y H Q => ∃ A S v w, Wf K A S H ∧ Rv K A H x v ∧ Rv K A H y w ∧ Post K A H Q (g v w S)
theorem ORul.op {f : Value → Value → Sem Value} {g : Val → Val → Sto → Res Val} (h : ORul X f g) : OpR X f (rO X.K g) := fun pins s σ H x y a b Q I ra rb ⟨A, S, v, w, wf, r1, r2, p⟩ => h pins s σ A S H x y a b v w Q I wf r1 r2 ra rb p
def ev2 (g : Val → Val → Sto → Res Val) (fa fb : Sx) : Sx := fun ρ S => (fa ρ S).bind fun v S1 => (fb ρ S1).bind fun w S2 => g v.th w.th S2
theorem ev2_ok {K : Frg} {g : Val → Val → Sto → Res Val} {fa fb : Sx} {σ : L2.St} {H : Hp} {Q : VK} (h : tE K (ev2 g fa fb) σ H Q) : tOp (rO K g) (tE K fa) (tE K fb) σ H Q := by
  obtain ⟨A, S, ρ, w, env, p⟩ := h
  refine ⟨A, S, ρ, w, env, Post.seq (P := Post K A H Q) p (fun h => h) (fun _ _ h => h) fun v S1 x H1 e1 w1 r1 p1 => ?_⟩
  refine ⟨A, S1, ρ, w1, env.mono e1, Post.seq (P := Post K A H Q) p1 (fun h => h) (fun _ _ h => h) fun u S2 y H2 e2 w2 r2 p2 => ?_⟩
  exact ⟨A, S2, v.th, u.th, w2, r1.mono e2, r2, p2.shift (e1.trans e2) w2⟩
variable {a b : Expr} {fa fb : Sx} {pos : Pos}
theorem eOp {op : Operator} {g : Val → Val → Sto → Res Val} (h : ORul X (binaryOp op) g) (ha : PE X a (tE X.K fa)) (hb : PE X b (tE X.K fb)) : PE X (.BinOp a op b pos) (tE X.K (ev2 g fa fb)) := PEi (pe_op h.op ha hb) fun _ _ _ => ev2_ok
theorem eCmp {op : CmpOp} {g : Val → Val → Sto → Res Val} (h : ORul X (compareOp op) g) (ha : PE X a (tE X.K fa)) (hb : PE X b (tE X.K fb)) (hm : behindInMarks op b = false := by first | exact nomark _ | rfl) : PE X (.Compare a [op] [b] pos) (tE X.K (ev2 g fa fb)) :=
  PEi (pe_cmpR h.op ha hb hm) fun _ _ _ => ev2_ok
/-! ### tests -/
def tst (f : Sx) : SB := fun ρ S => (f ρ S).bind fun v S1 => match v with
  | .d (.bool b) => .ok b S1
  | _ => .no
theorem tst_ok {K : Frg} {f : Sx} {σ : L2.St} {H : Hp} {Q : Bool → Hp → Prop} (h : tB K (tst f) σ H Q) : tTest (tE K f) σ H Q := by
  obtain ⟨A, S, ρ, w, env, p⟩ := h
  refine ⟨A, S, ρ, w, env, Post.seq (P := PostB K A H Q) p (fun h => h) (fun _ _ h => h) fun v S1 x H1 e1 w1 r1 p1 => ?_⟩
  split at p1
  · cases r1
    exact ⟨_, rfl, p1 H1 e1 w1⟩
  · exact p1.elim
theorem bCmp {op : CmpOp} {g : Val → Val → Sto → Res Val} (h : ORul X (compareOp op) g) (ha : PE X a (tE X.K fa)) (hb : PE X b (tE X.K fb)) (hm : behindInMarks op b = false := by first | exact nomark _ | rfl) : PT X (.Compare a [op] [b] pos) (tB X.K (tst (ev2 g fa fb))) :=
  PTi (pt_cmpR h.op ha hb hm) fun σ H Q q => by
    have z := tst_ok q
    exact ev2_ok z
theorem bVal (ha : PE X a (tE X.K fa)) (he : ∀ whole, isTrue a X.env whole = (do let v ← whole; standAt a.pos; holding [v] (truthy v)) := by intro _; rfl) : PT X a (tB X.K (tst fa)) := PTi (pt_val ha he) fun σ H Q q => tst_ok q
def bAnd (f g : SB) : SB := fun ρ S => (f ρ S).bind fun c S1 => if c = true then g ρ S1 else .ok false S1
def bOr (f g : SB) : SB := fun ρ S => (f ρ S).bind fun c S1 => if c = true then .ok true S1 else g ρ S1
def bNot (f : SB) : SB := fun ρ S => (f ρ S).bind fun c S1 => .ok (!c) S1
variable {ga gb : SB} {rest : List Expr}
theorem wAnd1 (ha : PT X a (tB X.K ga)) : PW X (.BoolOp .And [a] pos) (tB X.K ga) := pw_and1 ha
theorem wOr1 (ha : PT X a (tB X.K ga)) : PW X (.BoolOp .Or [a] pos) (tB X.K ga) := pw_or1 ha
theorem wAnd (ha : PT X a (tB X.K ga)) (hb : PW X (.BoolOp .And (b :: rest) pos) (tB X.K gb)) : PW X (.BoolOp .And (a :: b :: rest) pos) (tB X.K (bAnd ga gb)) := PWi (pw_and ha hb) fun σ H Q ⟨A, S, ρ, w, env, p⟩ =>
  ⟨A, S, ρ, w, env, PostB.seq (P := PostB X.K A H Q) p (fun h => h) (fun _ _ h => h) fun c S1 H1 e1 w1 p1 => by
    cases c with
    | true => rw [if_pos rfl] at p1 ⊢; exact ⟨A, S1, ρ, w1, env.mono e1, p1.shift e1⟩
    | false => rw [if_neg Bool.false_ne_true] at p1 ⊢; exact p1 H1 e1 w1⟩
theorem wOr (ha : PT X a (tB X.K ga)) (hb : PW X (.BoolOp .Or (b :: rest) pos) (tB X.K gb)) : PW X (.BoolOp .Or (a :: b :: rest) pos) (tB X.K (bOr ga gb)) := PWi (pw_or ha hb) fun σ H Q ⟨A, S, ρ, w, env, p⟩ =>
  ⟨A, S, ρ, w, env, PostB.seq (P := PostB X.K A H Q) p (fun h => h) (fun _ _ h => h) fun c S1 H1 e1 w1 p1 => by
    cases c with
    | true => rw [if_pos rfl] at p1 ⊢; exact p1 H1 e1 w1
    | false => rw [if_neg Bool.false_ne_true] at p1 ⊢; exact ⟨A, S1, ρ, w1, env.mono e1, p1.shift e1⟩⟩
theorem bPw (h : PW X a (tB X.K ga)) : PT X a (tB X.K ga) := h.pt
theorem bNo (ha : PT X a (tB X.K ga)) : PT X (.UnaryOp .Not a pos) (tB X.K (bNot ga)) := PTi (pt_not ha) fun σ H Q ⟨A, S, ρ, w, env, p⟩ =>
  ⟨A, S, ρ, w, env, PostB.seq (P := PostB X.K A H Q) p (fun h => h) (fun _ _ h => h) fun c S1 H1 e1 w1 p1 => p1 H1 e1 w1⟩
/-! .. as values -/
def evAnd (f g : Sx) : Sx := fun ρ S => (tst f ρ S).bind fun c S1 => if c = true then g ρ S1 else .ok (.d (.bool false)) S1
def evOr (f g : Sx) : Sx := fun ρ S => (tst f ρ S).bind fun c S1 => if c = true then .ok (.d (.bool true)) S1 else g ρ S1
def evNot (f : Sx) : Sx := fun ρ S => (tst f ρ S).bind fun c S1 => .ok (.d (.bool (!c))) S1
theorem tst_seq {K : Frg} {f : Sx} {σ : L2.St} {H : Hp} {Q : VK} {A : Wd} {S : Sto} {ρ : Envi} {g : Bool → Sto → Res Val} {R : V → Hp → Prop} (w : Wf K A S H) (env : REnv K A H ρ σ) (p : Post K A H Q ((tst f ρ S).bind g))
    (k : ∀ c S1 H1, Ext A H A H1 → Wf K A S1 H1 → REnv K A H1 ρ σ → Post K A H1 Q (g c S1) → R (.bl c) H1) : tE K f σ H R := by
  refine ⟨A, S, ρ, w, env, ?_⟩
  unfold tst at p
  cases hf : f ρ S with
  | ok v S1 =>
    rw [hf] at p
    show Post K A H R (f ρ S)
    rw [hf]
    refine Post.th fun x H1 e1 w1 r1 => ?_
    dsimp only [Res.bind] at p
    split at p
    · rename_i q
      split at q
      · injection q with q1 q2
        subst q1 q2
        cases r1
        exact k _ _ H1 e1 w1 (env.mono e1) (p.shift e1 w1)
      · cases q
    · exact p.elim
    · exact p.elim
  | exc e S => rw [hf] at p; exact p.elim
  | no => rw [hf] at p; exact p.elim
theorem eAnd (ha : PE X a (tE X.K fa)) (hb : PE X (.BoolOp .And (b :: rest) pos) (tE X.K fb)) : PE X (.BoolOp .And (a :: b :: rest) pos) (tE X.K (evAnd fa fb)) := PEi (pe_and ha hb) fun σ H Q ⟨A, S, ρ, w, env, p⟩ =>
  tst_seq w env p fun c S1 H1 e1 w1 env1 p1 => ⟨c, rfl, by
    cases c with
    | true => rw [if_pos rfl] at p1 ⊢; exact ⟨A, S1, ρ, w1, env1, p1⟩
    | false => rw [if_neg Bool.false_ne_true] at p1 ⊢; exact p1 _ H1 .refl w1 (.bl _)⟩
theorem eOr (ha : PE X a (tE X.K fa)) (hb : PE X (.BoolOp .Or (b :: rest) pos) (tE X.K fb)) : PE X (.BoolOp .Or (a :: b :: rest) pos) (tE X.K (evOr fa fb)) := PEi (pe_or ha hb) fun σ H Q ⟨A, S, ρ, w, env, p⟩ =>
  tst_seq w env p fun c S1 H1 e1 w1 env1 p1 => ⟨c, rfl, by
    cases c with
    | true => rw [if_pos rfl] at p1 ⊢; exact p1 _ H1 .refl w1 (.bl _)
    | false => rw [if_neg Bool.false_ne_true] at p1 ⊢; exact ⟨A, S1, ρ, w1, env1, p1⟩⟩
theorem eOne {op} (h : PE X a (tE X.K fa)) : PE X (.BoolOp op [a] pos) (tE X.K fa) := pe_one h
theorem eNot (ha : PE X a (tE X.K fa)) : PE X (.UnaryOp .Not a pos) (tE X.K (evNot fa)) := PEi (pe_not ha) fun σ H Q ⟨A, S, ρ, w, env, p⟩ =>
  tst_seq w env p fun c S1 H1 e1 w1 env1 p1 => ⟨c, rfl, p1 _ H1 .refl w1 (.bl _)⟩
def evIf (c : SB) (f g : Sx) : Sx := fun ρ S => (c ρ S).bind fun k S1 => if k = true then f ρ S1 else g ρ S1
theorem eIf {c : Expr} {gc : SB} (hc : PT X c (tB X.K gc)) (ha : PE X a (tE X.K fa)) (hb : PE X b (tE X.K fb)) : PE X (.IfExp c a b pos) (tE X.K (evIf gc fa fb)) := PEi (pe_ifExp hc ha hb) fun σ H Q ⟨A, S, ρ, w, env, p⟩ =>
  ⟨A, S, ρ, w, env, PostB.seq (P := Post X.K A H Q) p (fun h => h) (fun _ _ h => h) fun c S1 H1 e1 w1 p1 => by
    cases c with
    | true => rw [if_pos rfl] at p1 ⊢; exact ⟨A, S1, ρ, w1, env.mono e1, p1.shift e1 w1⟩
    | false => rw [if_neg Bool.false_ne_true] at p1 ⊢; exact ⟨A, S1, ρ, w1, env.mono e1, p1.shift e1 w1⟩⟩
def evChain (g g' : Val → Val → Sto → Res Val) (fa fb fc : Sx) : Sx := fun ρ S => (fa ρ S).bind fun v S1 => (fb ρ S1).bind fun w S2 => (g v.th w.th S2).bind fun z S3 => match z with
  | .d (.bool true) => (fc ρ S3).bind fun u S4 => g' w.th u.th S4
  | .d (.bool false) => .ok z S3
  | _ => .no
theorem eChain {op op' : CmpOp} {g g' : Val → Val → Sto → Res Val} {c : Expr} {fc : Sx} (h : ORul X (compareOp op) g) (h' : ORul X (compareOp op') g') (ha : PE X a (tE X.K fa)) (hb : PE X b (tE X.K fb)) (hc : PE X c (tE X.K fc))
    (hm : lastMarks [op, op'] [b, c] = false := by rfl) : PE X (.Compare a [op, op'] [b, c] pos) (tE X.K (evChain g g' fa fb fc)) :=
  PEi (pe_chain h.op h'.op ha hb hc hm) fun σ H Q ⟨A, S, ρ, w, env, p⟩ =>
  ⟨A, S, ρ, w, env, Post.seq (P := Post X.K A H Q) p (fun h => h) (fun _ _ h => h) fun v S1 x H1 e1 w1 r1 p1 =>
    ⟨A, S1, ρ, w1, env.mono e1, Post.seq (P := Post X.K A H Q) p1 (fun h => h) (fun _ _ h => h) fun u S2 y H2 e2 w2 r2 p2 =>
      ⟨A, S2, v.th, u.th, w2, r1.mono e2, r2, Post.seq (P := Post X.K A H Q) p2 (fun h => h) (fun _ _ h => h) fun z S3 t H3 e3 w3 r3 p3 => by
        split at p3
        · cases r3
          refine ⟨true, rfl, ?_⟩
          rw [if_pos rfl]
          have e4 := (e1.trans e2).trans e3
          exact ⟨A, S3, ρ, w3, env.mono e4, Post.seq (P := Post X.K A H Q) p3 (fun h => h) (fun _ _ h => h) fun u' S4 y' H4 e5 w4 r4 p4 => ⟨A, S4, u.th, u'.th, w4, (r2.mono e3).mono e5, r4, p4.shift (e4.trans e5) w4⟩⟩
        · cases r3
          refine ⟨false, rfl, ?_⟩
          rw [if_neg Bool.false_ne_true]
          exact p3 _ H3 ((e1.trans e2).trans e3) w3 (.bl _)
        · exact p3.elim⟩⟩⟩
end
end MV
set_option Elab.async false
set_option linter.all false
set_option maxRecDepth 100000
set_option maxHeartbeats 2000000
/-! New tuples of which the object is known: displays, tuple(x), t + u, t * k, t[a:b], pairs of zip and enumerate. -/
namespace MV
open PySem PySem.Spec PyProof.Rows L2
section
variable {X : Cx} {pins : List (Addr × Obj)} {σ : L2.St} {H : Hp} {s : Shared} {Q : VK}
theorem tupO_at {P : Program} {w : World} {H : Hp} {h : Heap} {a : Addr} {xs : List V} {its : List Value} (hz : xs.length ≤ sizeLine) (r : Vals xs its) (g : h.get? a = some { cls := .type "tuple", data := .seq its.toArray }) :
    ObjOk P w H h a (tupO its xs) := ⟨g, hz, its, r, ⟨_, g, rfl, _, rfl⟩⟩
/-- a tuple is laid at the heap's end -/
theorem lay_tup {xs : List V} {its : List Value} {t : Nat} (I : Inv X pins σ H s) (hz : xs.length ≤ sizeLine) (r : Vals xs its) (q : ∀ p its, H p = none → Q (.ref p) (L2.upd H p (tupO its xs))) :
    EP X pins σ Q (.ref s.heap.objs.size) { s with heap := s.heap.push { cls := .type "tuple", data := .seq its.toArray }, toks := t } :=
  ⟨V.ref s.heap.objs.size, L2.upd H s.heap.objs.size (tupO its xs),
    Inv.laid (t' := t) I (fun _ _ old => Heap.get?_push_of_some _ old) (Nat.le_refl _) (tupO_at hz r (Heap.get?_push_size _ rfl)),
    rfl, q _ its (HOk.fresh I.hok (Nat.le_refl _))⟩
def tTupC (t : TA) : TE := fun σ H Q => t σ H fun xs H1 => xs.length ≤ sizeLine ∧ ∀ p its, H1 p = none → Q (.ref p) (L2.upd H1 p (tupO its xs))
theorem pe_tupC {es : List Expr} {t : TA} {k} {pos : Pos} (he : PA X es t) : PE X (.Tuple es k pos) (tTupC t) where
  run := fun pins s σ H Q inv hq =>
    wpAny_Tuple_spliced <| thn (he.run pos pins s σ H _ inv hq) fun us s1 ⟨xs, H1, I1, r1, z, q1⟩ =>
      ⟨Nat.le_trans (Nat.le_of_eq (Vals.length r1).symm) z, lay_tup (t := s1.toks) I1 z r1 q1⟩
theorem call_tupC : CallR X (.type "tuple") (fun xs H Q => ∃ p ys, xs = [.ref p] ∧ ((SqL X.K H p ys ∧ ∀ l its, H l = none → Q (.ref l) (L2.upd H l (tupO its ys))) ∨ (SqT X.K H p ys ∧ Q (.ref p) H))) := by
  intro pins s σ H args us Q inv ra hh
  obtain ⟨p, ys, e0, way⟩ := hh
  subst e0
  obtain ⟨u0, e1, r0⟩ := vals1 ra
  subst e1
  cases r0
  rcases way with ⟨sq, q⟩ | ⟨sq, q⟩
  · obtain ⟨its, rv, pl, z⟩ := inv.list sq
    have n1 : its.toArray.size ≤ sizeLine := by rw [List.size_toArray, ← rv.length]; exact z
    exact call_tuple_list pl.isList (fun hp kp => lay_tup (s := { s with heap := hp }) (t := s.toks) (Inv.kept (t' := s.toks) inv kp) z rv q) n1
  · obtain ⟨its, rv, pl, _⟩ := inv.tuple sq
    exact call_tuple_same pl ⟨V.ref p, H, inv, rfl, q⟩
def tTupRgC (te : L2.St → Hp → (Int → Int → Hp → Prop) → Prop) : TE := fun σ H Q => te σ H fun a b H1 => RgOk a b ∧ ∀ p its, H1 p = none → Q (.ref p) (L2.upd H1 p (tupO its (rgV a b)))
theorem pe_tupRgC {e : Expr} {te : L2.St → Hp → (Int → Int → Hp → Prop) → Prop} {p pos : Pos} (calm : X.calm = true) (hg : Gl X "tuple") (hm : X.mg "tuple" = none) (he : PRg X e te)
    (na : starEach [e] X.env = (false, eval e X.env) :: starEach [] X.env := by rfl) : PE X (.Call (.Name "tuple" p) [e] [] pos) (tTupRgC te) where
  run := fun pins s σ H Q inv h => by
    refine Call_ (ld_blt inv hg hm boot_tuple (PyProof.Rows.callWith_type1 (args_cons (thn (he pins s σ H _ inv h) fun x s1 y => args_nil ?_) na) na))
    obtain ⟨r, a, b, t, u, v, H1, e0, hr, I1, okr, q⟩ := y
    subst e0
    have okr' := okr
    obtain ⟨b1, b2, b3, b4, b5⟩ := okr
    refine call_tuple_range (n := (b - a).toNat) (I1.ok.hd calm) hr (small_one b1 b2 b3 b4) (rangeSize_nat a b) b5 fun hp tk acc kp hi => ?_
    have big : (rgV a b).length ≤ sizeLine := by rw [rgV_length, sizeLine_eq]; omega
    have fin := lay_tup (s := { s1 with heap := hp, toks := tk }) (t := tk) (Inv.kept (t' := tk) I1 kp) big (vals_rg hi) q
    rw [Array.toArray_toList] at fin
    exact fin
def rRepC (K : Frg) : R2 := fun x y H Q => ∃ l k xs, x = .ref l ∧ y = .int k ∧ SqT K H l xs ∧ xs ≠ [] ∧ 2 ≤ k ∧ k ≤ 1000 ∧ xs.length ≤ 1000 ∧ ∀ p its, H p = none → Q (.ref p) (L2.upd H p (tupO its (List.replicate k.toNat xs).flatten))
theorem op_repC : OpR X (binaryOp .Mult) (rRepC X.K) := by
  intro pins s σ H x y v u Q inv rx ry hh
  obtain ⟨l, k, xs, e1, e2, sq, ne, lo, hi, z, q⟩ := hh
  subst e1 e2
  cases rx
  obtain ⟨t, e3⟩ := ry
  subst e3
  obtain ⟨its, rv, ⟨⟨cl, dd, dat, slo⟩, go, gc, n, gd⟩, _⟩ := inv.tuple sq
  dsimp only at gc gd
  subst gc gd
  have len : its.length = xs.length := rv.length.symm
  have ne2 : its ≠ [] := fun e => by
    rw [e] at len
    exact ne (List.eq_nil_of_length_eq_zero len.symm)
  have emp : its.toArray.isEmpty = false := by
    cases its with
    | nil => exact (ne2 rfl).elim
    | cons _ _ => rfl
  have len2 : its.toArray.size = xs.length := List.size_toArray.trans len
  have bd : ((its.toArray.size : Nat) : Int) * k ≤ 1000000 := by
    rw [len2]
    have := Int.mul_le_mul_of_nonneg_right (show ((xs.length : Nat) : Int) ≤ 1000 by omega) (show (0 : Int) ≤ k by omega)
    omega
  have bd2 : k.toNat * xs.length ≤ 1000000 := by
    have := Nat.mul_le_mul (show k.toNat ≤ 1000 by omega) z
    omega
  have fl : (List.replicate k.toNat its).flatten.length ≤ sizeLine := by
    rw [PyProof.Rows.lm_len_rep_flat, len, sizeLine_eq]
    omega
  have d0 : (decide (k < -(2 ^ 63)) || decide (k ≥ 2 ^ 63)) = false := by simp; omega
  have d1 : (its.toArray.isEmpty || k == 1) = false := by simp [emp]; omega
  have d2 : (decide (k ≤ 0) || its.toArray.isEmpty) = false := by simp [emp]; omega
  have d4 : Builtin.Tuple.tupleTooMany (((its.toArray.size : Nat) : Int) * k) = false := by
    unfold Builtin.Tuple.tupleTooMany
    rw [sizeLine_eq]
    simp only [decide_eq_false_iff_not]
    omega
  refine wpAny_binaryOp_repeat_ref (T := "tuple") (U := "int") (by decide) ⟨_, go, rfl⟩ (fun s' => typeIs_int s' k t) noFill_tuple_mul F.fills_int_mul F.slot_int_rmul repeat_tuple F.slot_int_index.lookup
    (call_meets F.slot_int_rmul (typeIs_int s k t) F.entry_int_rmul (F.args_int_rmul_2 _ _) (int_rmul_tuple k t l its.toArray n dd slo)
      ⟨go, rfl, ⟨_, go, rfl⟩, ?_⟩)
  refine call_meets F.slot_tuple_mul ⟨_, go, rfl⟩ F.entry_tuple_mul (F.args_tuple_mul_2 _ _) (tuple_mulW l its.toArray n dd slo k t d0 d1 d2 (by omega) d4 ?_) ⟨go, ?_⟩
  · rw [size_rep, List.size_toArray]; exact fl
  · rw [size_rep]
    refine lay_tup (xs := (List.replicate k.toNat xs).flatten) (t := s.toks) inv ?_ (Vals.rep rv k.toNat) q
    rw [PyProof.Rows.lm_len_rep_flat, sizeLine_eq]
    omega
def rCatC (K : Frg) : R2 := fun x y H Q => ∃ a b xs ys, x = .ref a ∧ y = .ref b ∧ SqT K H a xs ∧ SqT K H b ys ∧ xs.length + ys.length ≤ sizeLine ∧
  (xs = [] → Q (.ref b) H) ∧ (xs ≠ [] → ys = [] → Q (.ref a) H) ∧ (xs ≠ [] → ys ≠ [] → ∀ p its, H p = none → Q (.ref p) (L2.upd H p (tupO its (xs ++ ys))))
theorem op_catC : OpR X (binaryOp .Add) (rCatC X.K) := by
  intro pins s σ H x y v u Q inv rx ry hh
  obtain ⟨a, b, xs, ys, e1, e2, sa, sb, z, q0, q1, q2⟩ := hh
  subst e1 e2
  cases rx
  cases ry
  obtain ⟨ia, ra, pa, _⟩ := inv.tuple sa
  obtain ⟨ib, rb, pb, _⟩ := inv.tuple sb
  by_cases hx : xs = []
  · subst hx
    cases ra
    exact cat_tup0 pa pb ⟨V.ref b, H, inv, rfl, q0 rfl⟩
  · refine HT.cat_tup pa pb (fun z => hx ((Vals.nil_iff ra).mp z)) (fun z => ⟨V.ref a, H, inv, rfl, q1 hx ((Vals.nil_iff rb).mp z)⟩) (fun nz => ?_) ?_
    · exact lay_tup (xs := xs ++ ys) (t := s.toks) inv (by rw [List.length_append]; exact z) (Vals.append ra rb) (q2 hx fun w => nz ((Vals.nil_iff rb).mpr w))
    · rw [← ra.length, ← rb.length]; exact z
def rSlC (K : Frg) : V → Option Int → Option Int → Hp → VK → Prop := fun x lo hi H Q => ∃ a xs, x = .ref a ∧ SqT K H a xs ∧
  (HT.sIx xs.length 0 lo = 0 ∧ HT.sIx xs.length xs.length hi = xs.length → Q (.ref a) H) ∧
  (¬ (HT.sIx xs.length 0 lo = 0 ∧ HT.sIx xs.length xs.length hi = xs.length) → ∀ p its, H p = none → Q (.ref p) (L2.upd H p (tupO its (cutV xs lo hi))))
theorem sl_tupC : SlR X (rSlC X.K) := by
  intro pins s σ H x v vl vu lo hi sl Q inv rx hs pl pu hh
  obtain ⟨a, xs, e0, sq, q1, q2⟩ := hh
  subst e0
  cases rx
  obtain ⟨its, rv, tp, z⟩ := inv.tuple sq
  have len : its.toArray.size = xs.length := List.size_toArray.trans rv.length.symm
  refine ⟨"tuple", _, PyProof.Rows.slot_tuple_getitem.lookup, tp.typeIs, ?_⟩
  by_cases whole : HT.sIx xs.length 0 lo = 0 ∧ HT.sIx xs.length xs.length hi = xs.length
  · refine getItem_tuple_whole tp hs pl pu ?_ ⟨V.ref a, H, inv, rfl, q1 whole⟩
    rw [len]; exact whole
  · refine HT.getItem_tuple_cut tp hs pl pu (by rw [len]; exact whole) ?_ (by rw [len]; exact z)
    rw [len]
    exact lay_tup (xs := cutV xs lo hi) (t := s.toks) inv (Nat.le_trans (cutV_length xs lo hi) z) (Vals.take _ (Vals.drop _ rv)) (q2 whole)
end
/-! ### zip and enumerate -/
def IteC (K : Frg) (a : Addr) : It := { Ite K a with
  yld := fun i H v H' => ∃ T x its, v = .ref T ∧ H T = none ∧ H' = L2.upd H T (tupO its [.int (i : Nat), x]) ∧ ∀ xs, SqL K H a xs → xs[i]? = some x }
section
variable {P : Program} {w : World} {K : Frg} {elts : List Expr} {kk : Nat} {tpos : Pos} {a b z TI TO i1 i2 e it : Addr}
theorem five_in {c z TI TO i1 i2 : Addr} {n : Nat} (h : c ∈ [z, TI, TO, i1, i2]) (h1 : z < n) (h2 : TI < n) (h3 : TO < n) (h4 : i1 < n) (h5 : i2 < n) : c < n := by
  simp only [List.mem_cons, List.not_mem_nil, or_false] at h
  rcases h with e | e | e | e | e
  all_goals (subst e; assumption)
theorem two_le : (2 : Nat) ≤ sizeLine := by decide
theorem turn_enumC : Turn P w K (.Tuple elts kk tpos) (IteC K a) [e, it] e (fun i h => (∃ old, IsEnum h e it ((i : Nat) : Int) old) ∧ h.IsListIter it a i ∧ e ≠ it) where
  mem := (turn_enum (P := P) (w := w) (K := K) (elts := elts) (kk := kk) (tpos := tpos) a e it).mem
  obj := (turn_enum (P := P) (w := w) (K := K) (elts := elts) (kk := kk) (tpos := tpos) a e it).obj
  keep := (turn_enum (P := P) (w := w) (K := K) (elts := elts) (kk := kk) (tpos := tpos) a e it).keep
  done := (turn_enum (P := P) (w := w) (K := K) (elts := elts) (kk := kk) (tpos := tpos) a e it).done
  self := (turn_enum (P := P) (w := w) (K := K) (elts := elts) (kk := kk) (tpos := tpos) a e it).self
  item := fun X ep ew eK calm i pins s σ H E inv free st go => by
    subst ep ew eK
    obtain ⟨⟨old, ge⟩, git, ne⟩ := st
    obtain ⟨xs, x, sx, hx⟩ := go
    obtain ⟨ix, rx, px, _⟩ := inv.list sx
    obtain ⟨u, hu, ru⟩ := rx.get hx
    have le := Heap.lt_size ge
    have li : it < s.heap.objs.size := by
      obtain ⟨_, f, _⟩ := git
      exact Heap.lt_size f
    refine wpAny_pyNext_enum_item ge git px.isList (x := u) (by simpa using hu) ne fun h1 ge1 git1 gT sz keep1 => ?_
    refine ⟨_, rfl, wpAny_letOwnedTupleGo_enum (s := { s with heap := h1, toks := s.toks + 1 }) ge1 fun h2 ge2 but => ?_⟩
    have stay : ∀ c o, c ∉ [e, it] → s.heap.get? c = some o → h2.get? c = some o := fun c o out old => by
      simp only [List.mem_cons, List.not_mem_nil, or_false, not_or] at out
      exact (but.2 c out.1).trans (keep1 c o out.1 out.2 old)
    have gT2 : h2.get? s.heap.objs.size = some { cls := .type "tuple", data := .seq #[.int i s.toks, u] } := (but.2 _ (Nat.ne_of_gt le)).trans gT
    have J := Inv.turnedNew (t' := s.toks + 1) (ch := [e, it]) (ob := tupO [.int i s.toks, u] [.int (i : Nat), x]) inv stay free (Nat.le_refl _) (tupO_at (xs := [.int (i : Nat), x]) (its := [.int i s.toks, u]) two_le (.cons ⟨_, rfl⟩ (.cons ru .nil)) gT2)
    refine ⟨V.ref s.heap.objs.size, _, J, rfl, ⟨_, x, _, rfl, HOk.fresh inv.hok (Nat.le_refl _), rfl, fun l hl => ?_⟩, ⟨⟨u, ?_⟩, ?_, ne⟩, fun c hc => ?_⟩
    · rw [inv.list_inj hl sx]; exact hx
    · rw [show ((i + 1 : Nat) : Int) = (i : Int) + 1 by omega]; exact ge2
    · exact Heap.IsListIter.at git1 fun o q => (but.2 it (Ne.symm ne)).trans q
    · simp only [List.mem_cons, List.not_mem_nil, or_false] at hc
      rw [upd_ne (Nat.ne_of_lt (by rcases hc with e1 | e1 <;> (rw [e1]; assumption)))]
      exact (free c (by simpa using hc)).1
end
end MV
set_option Elab.async false
set_option linter.all false
set_option maxRecDepth 100000
/-! Readings by mirrors: arguments, displays, calls, targets, statements, loops, comprehensions. -/
namespace MV
open PySem PySem.Spec PyProof.Rows L2
/-! ### what stays when a list that is being made grows -/
def Kx (W : Wd) (H : Hp) (W' : Wd) (H' : Hp) : Prop := (∃ B, W'.A = W.A ++ B) ∧ Kp W.V H W'.V H'
theorem Ext.kx {A A' : Wd} {H H' : Hp} (e : Ext A H A' H') : Kx A H A' H' := ⟨e.pre, e.kp⟩
section
variable {X : Cx} {K : Frg} {a b : Expr} {fa fb : Sx} {pos : Pos} {A A' A2 : Wd} {H H' H2 : Hp} {S S' : Sto} {Q : VK} {ρ : Envi} {σ : L2.St} {D : Ends}
/-- chain an expression's end -/
theorem at_seq {β : Type} {P : Res β → Prop} {f : Sx} {g : Val → Sto → Res β} {Q : VK} (w : Wf K A S H) (env : REnv K A H ρ σ) (p : P ((f ρ S).bind g)) (h0 : P .no → False) (h1 : ∀ e S, P (.exc e S) → False)
    (k : ∀ v S1 x H1, Ext A H A H1 → Wf K A S1 H1 → Rv K A H1 x v.th → P (g v S1) → Q x H1) : tE K f σ H Q := ⟨A, S, ρ, w, env, Post.seq (P := P) p h0 h1 k⟩

/-! ### arguments, displays -/
def aNil : SA := fun _ S => .ok [] S
def aCons (f : Sx) (g : SA) : SA := fun ρ S => (f ρ S).bind fun v S1 => (g ρ S1).bind fun vs S2 => .ok (v.th :: vs) S2
theorem aN : PA X [] (tAr X.K aNil) := PAi pa_nil fun σ H Q ⟨A, S, ρ, w, env, p⟩ => p [] H .refl w .nil
theorem aC {e : Expr} {es : List Expr} {f : Sx} {g : SA} (he : PE X e (tE X.K f)) (hr : PA X es (tAr X.K g)) (hs : starEach (e :: es) X.env = (false, eval e X.env) :: starEach es X.env := by rfl) : PA X (e :: es) (tAr X.K (aCons f g)) :=
  PAi (pa_cons he hr hs) fun σ H Q ⟨A, S, ρ, w, env, p⟩ => at_seq (P := PostA X.K A H Q) w env p (fun h => h) (fun _ _ h => h) fun v S1 x H1 e1 w1 r1 p1 =>
    ⟨A, S1, ρ, w1, env.mono e1, PostA.seq (P := PostA X.K A H Q) p1 (fun h => h) (fun _ _ h => h) fun vs S2 xs H2 e2 w2 r2 p2 => p2 _ H2 (e1.trans e2) w2 (.cons (r1.mono e2) r2)⟩
def datas : List Val → Option (List PyData)
  | [] => some []
  | .d x :: r => (datas r).map (x :: ·)
  | _ :: _ => none
theorem datas_ok : ∀ {vs : List Val} {xs : List V} {ds : List PyData}, datas vs = some ds → RvL K A H xs vs → RpL K A.V H xs ds
  | [], _, _, h, .nil => by cases h; exact .nil
  | .d x :: r, _, ds, h, .cons r1 r2 => by
    unfold datas at h
    cases q : datas r with
    | none => rw [q] at h; cases h
    | some es => rw [q] at h; cases h; exact .cons r1 (datas_ok q r2)
def evTup (f : SA) : Sx := fun ρ S => (f ρ S).bind fun vs S1 => match datas vs with
  | some ds => if ds.length ≤ 1000 then .ok (.d (.tuple ds)) S1 else .no
  | none => .no
def evLst (f : SA) : Sx := fun ρ S => (f ρ S).bind fun vs S1 => match datas vs with
  | some ds => if ds.length ≤ 1000 then .ok (.f (.lst ds)) S1 else .no
  | none => .no
theorem line1000 {n : Nat} (h : n ≤ 1000) : n ≤ sizeLine := Nat.le_of_lt (small1000 h)
/-- a new tuple, a new list at hand -/
theorem Post.tup {ds : List PyData} {xs : List V} {p : Addr} {its : List Value} (h : Post K A H Q (.ok (.d (.tuple ds)) S)) (e : Ext A H A H2) (w : Wf K A S H2) (hp : H2 p = none) (r : RpL K A.V H2 xs ds) : Q (.ref p) (upd H2 p (tupO its xs)) :=
  h _ _ (e.trans (.laid hp)) (w.laid hp) (.tup (.inl ⟨⟨its, upd_same⟩, w.off hp⟩) (r.mono (Ext.laid hp).kp))
theorem push_cell {ds : List PyData} {xs : List V} {p : Addr} (w : Wf K A S H2) (hp : H2 p = none) (r : RpL K A.V H2 xs ds) : Wf K (A.push p) (S ++ [.lst ds]) (upd H2 p (.lst xs)) :=
  w.new hp ⟨xs, upd_same, r.mono (Ext.push hp w).kp⟩
theorem Post.lst {ds : List PyData} {xs : List V} {p : Addr} (h : Post K A H Q (.ok (.f (.lst ds)) S)) (e : Ext A H A H2) (w : Wf K A S H2) (hp : H2 p = none) (r : RpL K A.V H2 xs ds) : Q (.ref p) (upd H2 p (.lst xs)) :=
  h _ _ (e.trans (.laid hp)) (push_cell w hp r) (e.free w hp)
theorem eTup {es : List Expr} {f : SA} {k} (h : PA X es (tAr X.K f)) : PE X (.Tuple es k pos) (tE X.K (evTup f)) := PEi (pe_tupC h) fun σ H Q ⟨A, S, ρ, w, env, p⟩ =>
  ⟨A, S, ρ, w, env, PostA.seq (P := Post X.K A H Q) p (fun h => h) (fun _ _ h => h) fun vs S1 xs H1 e1 w1 r1 p1 => by
    split at p1
    · rename_i ds hd
      split at p1
      · rename_i hl
        have r := datas_ok hd r1
        exact ⟨by rw [r.length]; exact line1000 hl, fun q its hq => p1.tup e1 w1 hq r⟩
      · exact p1.elim
    · exact p1.elim⟩
theorem eLst {es : List Expr} {f : SA} (h : PA X es (tAr X.K f)) : PE X (.List es pos) (tE X.K (evLst f)) := PEi (pe_lst h) fun σ H Q ⟨A, S, ρ, w, env, p⟩ =>
  ⟨A, S, ρ, w, env, PostA.seq (P := Post X.K A H Q) p (fun h => h) (fun _ _ h => h) fun vs S1 xs H1 e1 w1 r1 p1 => by
    split at p1
    · rename_i ds hd
      split at p1
      · rename_i hl
        have r := datas_ok hd r1
        exact ⟨by rw [r.length]; exact line1000 hl, fun q hq => p1.lst e1 w1 hq r⟩
      · exact p1.elim
    · exact p1.elim⟩

/-! ### calls -/
def BRul (X : Cx) (f : Value) (g : List Val → Sto → Res Val) : Prop :=
  ∀ (pins : List (Addr × Obj)) (s : Shared) (σ : L2.St) (A : Wd) (S : Sto) (H : Hp) (xs : List V) (us : List Value) (vs : List Val) (Q : VK), Inv X pins σ H s → Wf X.K A S H → RvL X.K A H xs vs → Vals xs us →
    Post X.K A H Q (g vs S) → wpAny (model X.prog X.w) X.A (call f us) (EP X pins σ Q) X.xe s
def rB (K : Frg) (g : List Val → Sto → Res Val) : List V → Hp → VK → Prop := fun xs H Q => ∃ A S vs, Wf K A S H ∧ RvL K A H xs vs ∧ Post K A H Q (g vs S)
theorem BRul.call {f : Value} {g : List Val → Sto → Res Val} (h : BRul X f g) : CallR X f (rB X.K g) := fun pins s σ H xs us Q I r ⟨A, S, vs, w, r2, p⟩ => h pins s σ A S H xs us vs Q I w r2 r p
def evCall (g : List Val → Sto → Res Val) (f : SA) : Sx := fun ρ S => (f ρ S).bind g
theorem call_ok {g : List Val → Sto → Res Val} {f : SA} (h : tE K (evCall g f) σ H Q) : tCB (rB K g) (tAr K f) σ H Q := by
  obtain ⟨A, S, ρ, w, env, p⟩ := h
  exact ⟨A, S, ρ, w, env, PostA.seq (P := Post K A H Q) p (fun h => h) (fun _ _ h => h) fun vs S1 xs H1 e1 w1 r1 p1 => ⟨A, S1, vs, w1, r1, p1.shift e1 w1⟩⟩
section
variable {x : Str} {p : Pos} {e : Expr} {es : List Expr} {f : SA} {id T : String} {g : List Val → Sto → Res Val}
theorem eB (hc : BRul X (.builtin id) g) (hg : Gl X x) (hm : X.mg x = none) (hv : bootBuiltins x = some (.builtin id)) (ha : PA X (e :: es) (tAr X.K f)) (hn : x ≠ "__name__" := by decide) (hdb : (x == ("__debug__" : Str)) = false := by decide)
    (he : starEach (e :: es) X.env = (false, eval e X.env) :: starEach es X.env := by rfl) (hpl : (backTo pos (starEach es X.env)).any (·.1) = false := by rfl) : PE X (.Call (.Name x p) (e :: es) [] pos) (tE X.K (evCall g f)) :=
  PEi (pe_callB hc.call hg hm hv ha hn hdb he hpl) fun _ _ _ => call_ok
theorem eT (hc : BRul X (.type T) g) (hg : Gl X x) (hm : X.mg x = none) (hv : bootBuiltins x = some (.type T)) (ha : PA X (e :: es) (tAr X.K f)) (hn : x ≠ "__name__" := by decide) (hdb : (x == ("__debug__" : Str)) = false := by decide)
    (he : starEach (e :: es) X.env = (false, eval e X.env) :: starEach es X.env := by rfl) (hpl : (backTo pos (starEach es X.env)).any (·.1) = false := by rfl) : PE X (.Call (.Name x p) (e :: es) [] pos) (tE X.K (evCall g f)) :=
  PEi (pe_callTy hc.call hg hm hv ha hn hdb he hpl) fun _ _ _ => call_ok
end
/-! ### defs, called where no container's text is being made -/
structure FnG (P : Program) (w : World) (K : Frg) (mg : Str → Option Value) (base : Heap) (k : Nat) (f : Addr) (fd : FuncData) (ps : List Str) (sp : Sp) : Prop where
  arity : ∀ xs H Q E, sp xs H Q E → xs.length = ps.length
  runs : ∀ (A : Around) (out : List PySem.Env) (s : Shared) (H : Hp) (ar : Args) (us : List Value) (xs : List V) (Q : VK) (E : XK),
    Room k A → A.guards = some [] → Env0 P w K mg base A out s H → BindsTo s fd ar (ps.zip us) → Vals xs us → sp xs H Q E → codeAny (model P w) A (.call (.ref f) ar) (CR CX0 out P w H s Q E) s
theorem FnG.up {P : Program} {w : World} {K : Frg} {mg : Str → Option Value} {base : Heap} {j k : Nat} {f : Addr} {fd : FuncData} {ps : List Str} {sp : Sp} (F : FnG P w K mg base j f fd ps sp) (le : j ≤ k) : FnG P w K mg base k f fd ps sp :=
  ⟨F.arity, fun A out s H ar us xs Q E room => F.runs A out s H ar us xs Q E (room.mono le)⟩
theorem fnG_of {P : Program} {w : World} {K : Frg} {mg : Str → Option Value} {base : Heap} {x qual : Str} {st : Stmt} {f : Addr} {fd : FuncData} {N ps : List Str} {k : Nat} {sp : Sp} (F : Fun K x qual st f fd) (Sc : FnScope N ps (defScope st))
    (ar0 : ∀ xs H Q E, sp xs H Q E → xs.length = ps.length)
    (body : ∀ (cdv : Value) (A : Around) (out : List PySem.Env) (s : Shared) (H : Hp) (xs : List V) (Q : VK) (E : XK), Room k (A.deeper (envOfC qual (defScope st) s.heap.objs.size f cdv)) → A.guards = some [] → sp xs H Q E →
      ∃ t, PSs (cxOf CX0 P w K mg base N qual (defScope st) f cdv A out s H E).nox (defBody st) t ∧ t { nx := fun _ H' => Q .non H', rt := Q } (L2.start N xs) H) : FnG P w K mg base (k + 1) f fd ps sp := by
  obtain ⟨oc, od, kV, dc, pm, an, cdv, ct, osl, e_fd, found, code⟩ := F.ex
  subst e_fd
  constructor
  · exact ar0
  · intro A out s H ar us xs Q E room gd env0 bnd rel promise
    have arity := ar0 _ _ _ _ promise
    have inK : K.In s.heap := env0.mod.kin.keeps fun c v q => (env0.bs c v q).1
    have noLim : s.heap.NoLimit := env0.mod.nolimit.keeps fun c v q => (env0.bs c v q).1
    have kinds : ∀ z ∈ ps.zip us, (defScope st).names.lookup z.1 = some .local ∨ ((defScope st).names.lookup z.1 = some .cell ∧ ((cellsFrom (s.heap.objs.size + 1) (defScope st).names []).lookup z.1).isSome = true) := by
      rintro ⟨n, v⟩ hz
      rcases Sc.par n (List.of_mem_zip hz).1 with lo | ce
      · exact Or.inl lo
      · exact Or.inr ⟨ce, PySem.W.cellsFrom_some _ _ _ (Or.inl ce)⟩
    refine codeAny_call_function room.depth (inK _ _ found) rfl Sc.co Sc.gen rfl (PySem.W.codeRec_of inK code) (bnd _ _ _ _ (wpAny_newFunctionEnv_cells Sc.kind kinds fun env' e_env s' frame => ?_))
    subst e_env
    refine ⟨noLim.keeps frame.toInCall.keep, codeAny_func ?_⟩
    obtain ⟨t, walk, holds⟩ := body cdv A out s H xs Q E (room.deeper _) gd promise
    have inv0 : Inv (cxOf CX0 P w K mg base N qual (defScope st) f cdv A out s H E) [] (L2.start N xs) H s' := inv_start Sc room.hd env0 arity rel frame
    refine wpAny_mono (walk.nox.run [] s' (L2.start N xs) H _ inv0 holds) ?_ fun e s2 q => q
    intro fl s2 ends
    cases fl with
    | ret u =>
      obtain ⟨v, σ2, H2, inv2, rel2, q⟩ := ends
      exact ⟨v, H2, inv2.os, inv2.bare, inv2.base, inv2.hok, rel2, q⟩
    | next =>
      obtain ⟨σ2, H2, inv2, q⟩ := ends
      exact ⟨V.non, H2, inv2.os, inv2.bare, inv2.base, inv2.hok, rfl, q⟩
    | brk =>
      obtain ⟨_, _, _, q⟩ := ends
      exact q.elim
    | cont =>
      obtain ⟨_, _, _, q⟩ := ends
      exact q.elim
section
variable {x : Str} {p : Pos} {e : Expr} {es : List Expr} {k : Nat} {fa : Addr} {fd : FuncData} {ps : List Str} {sp : Sp} {t : TA}
theorem runG {pins : List (Addr × Obj)} {s : Shared} {us : List Value} {xs : List V} (F : FnG X.prog X.w X.K X.mg X.base k fa fd ps sp) (room : Room k X.A) (gd : X.A.guards = some []) (hb : Binds X.K fd ps []) (I : Inv X pins σ H s) (r : Vals xs us) (h : sp xs H Q E0) :
    wpAny (model X.prog X.w) X.A (call (.ref fa) us) (EP X pins σ Q) X.xe s := by
  have n : us.length = ps.length := r.length.symm.trans (F.arity _ _ _ _ h)
  have b := hb s us I.kIn (by rw [List.append_nil]; exact n)
  rw [List.append_nil] at b
  refine wpAny_call (codeAny_mono (F.runs X.A X.stack s H ⟨us, []⟩ us xs Q E0 room gd I.env0 b r h) ?_)
  intro res s2 q
  match res, q with
  | .ok (.ret u), q => exact I.after q
  | .ok .next, q => exact q.elim
  | .ok .brk, q => exact q.elim
  | .ok .cont, q => exact q.elim
  | .error e, q => exact q.elim
def tCl (sp : Sp) (t : TA) : TE := fun σ H Q => t σ H fun xs H1 => sp xs H1 Q E0
theorem peG (F : FnG X.prog X.w X.K X.mg X.base k fa fd ps sp) (room : Room k X.A) (gd : X.A.guards = some []) (hg : Gl X x) (hm : X.mg x = some (.ref fa)) (hk : PySem.W.keepIn X.K (.ref fa) = true) (hb : Binds X.K fd ps [])
    (ha : PA X (e :: es) t) (hdb : (x == ("__debug__" : Str)) = false := by decide) (he : starEach (e :: es) X.env = (false, eval e X.env) :: starEach es X.env := by rfl) (hpl : (backTo pos (starEach es X.env)).any (·.1) = false := by rfl) :
    PE X (.Call (.Name x p) (e :: es) [] pos) (tCl sp t) := by
  constructor
  intro pins s σ H Q I h
  refine wpAny_Call_Name_kw (ld_glob I hg hm (PySem.W.callWith_K (h₀ := X.base) I.ok.mod.kin hk (thn (ha.run pos pins s σ H _ I h) ?_) he hpl) hdb)
  rintro us s2 ⟨xs, H2, I2, r, q⟩
  exact ⟨I2.kIn, runG F room gd hb I2 r q⟩
theorem peG0 (F : FnG X.prog X.w X.K X.mg X.base k fa fd ps sp) (room : Room k X.A) (gd : X.A.guards = some []) (hg : Gl X x) (hm : X.mg x = some (.ref fa)) (hk : PySem.W.keepIn X.K (.ref fa) = true) (hb : Binds X.K fd ps [])
    (hdb : (x == ("__debug__" : Str)) = false := by decide) : PE X (.Call (.Name x p) [] [] pos) (fun _ H Q => sp [] H Q E0) := by
  constructor
  intro pins s σ H Q I h
  exact wpAny_Call_Name_kw (ld_glob I hg hm (PySem.W.callWith_K0 I.kIn hk (runG (us := []) F room gd hb I .nil h)) hdb)
end
abbrev Fn := List Val → Sto → Res Val
/-- a def keeps its mirror -/
def spF (K : Frg) (m : Fn) : Sp := fun xs H Q _ => rB K m xs H Q
section
variable {x : Str} {p : Pos} {e : Expr} {es : List Expr} {f : SA} {k : Nat} {fa : Addr} {fd : FuncData} {ps : List Str} {m : Fn}
theorem eF (F : FnG X.prog X.w X.K X.mg X.base k fa fd ps (spF X.K m)) (hr : Room k X.A) (gd : X.A.guards = some []) (hg : Gl X x) (hm : X.mg x = some (.ref fa)) (hk : PySem.W.keepIn X.K (.ref fa) = true) (hb : Binds X.K fd ps [])
    (ha : PA X (e :: es) (tAr X.K f)) (hdb : (x == ("__debug__" : Str)) = false := by decide) (he : starEach (e :: es) X.env = (false, eval e X.env) :: starEach es X.env := by rfl) (hpl : (backTo pos (starEach es X.env)).any (·.1) = false := by rfl) :
    PE X (.Call (.Name x p) (e :: es) [] pos) (tE X.K (evCall m f)) :=
  PEi (peG F hr gd hg hm hk hb ha hdb he hpl) fun σ H Q ⟨A, S, ρ, w, env, p⟩ => ⟨A, S, ρ, w, env, PostA.seq (P := Post X.K A H Q) p (fun h => h) (fun _ _ h => h) fun vs S1 xs H1 e1 w1 r1 p1 => ⟨A, S1, vs, w1, r1, p1.shift e1 w1⟩⟩
theorem eF0 (F : FnG X.prog X.w X.K X.mg X.base k fa fd ps (spF X.K m)) (hr : Room k X.A) (gd : X.A.guards = some []) (hg : Gl X x) (hm : X.mg x = some (.ref fa)) (hk : PySem.W.keepIn X.K (.ref fa) = true) (hb : Binds X.K fd ps [])
    (hdb : (x == ("__debug__" : Str)) = false := by decide) : PE X (.Call (.Name x p) [] [] pos) (tE X.K (evCall m aNil)) :=
  PEi (peG0 F hr gd hg hm hk hb hdb) fun σ H Q ⟨A, S, ρ, w, env, p⟩ => ⟨A, S, [], w, .nil, p⟩
end

/-! ### targets -/
structure Bnd where
  sl : List Nat
  go : PyData → Envi → Option Envi
def tG (K : Frg) (b : Bnd) : TG := fun v σ H Q => ∃ A ρ x ρ', REnv K A H ρ σ ∧ Rp K A.V H v x ∧ b.go x ρ = some ρ' ∧ ∀ σ' : L2.St, σ'.length = σ.length → (∀ j, j ∉ b.sl → σ'[j]? = σ[j]?) → REnv K A H ρ' σ' → Q σ' H
def bName (i : Nat) : Bnd := ⟨[i], fun x ρ => some (ρ.set i (some (.d x)))⟩
theorem REnv.set {i : Nat} {x : V} {v : Val} (env : REnv K A H ρ σ) (r : Rv K A H x v) : REnv K A H (ρ.set i (some v)) (σ.set i (some x)) := by
  refine ⟨by rw [List.length_set, List.length_set]; exact env.len, fun j u h => ?_⟩
  by_cases e : j = i
  · subst e
    have hl : j < ρ.length := by
      have := (List.getElem?_eq_some_iff.mp h).1
      rwa [List.length_set] at this
    rw [List.getElem?_set_self hl] at h
    cases h
    exact ⟨x, by rw [List.getElem?_set_self (by rw [env.len]; exact hl)], r⟩
  · rw [List.getElem?_set_ne (Ne.symm e)] at h
    obtain ⟨y, h1, h2⟩ := env.get j u h
    exact ⟨y, by rw [List.getElem?_set_ne (Ne.symm e)]; exact h1, h2⟩
theorem gN {i : Nat} {x : Str} (hN : X.N.Nodup) (hi : X.N[i]? = some x) (hx : Loc X.env.scope x) (hf : X.fn x = true ∨ X.env.scope.names.lookup x = some .local := by first | exact .inl rfl | exact .inr rfl | assumption) : PG X (.Name x pos) (tG X.K (bName i)) :=
  ⟨fun pins s σ H v u Q I r h => (pg_name hN hi hx hf).run pins s σ H v u Q I r (by
    obtain ⟨A, ρ, y, ρ', env, rp, e, q⟩ := h
    cases e
    refine q _ (by rw [List.length_set]) (fun j hj => ?_) (env.set (v := .d y) rp)
    rw [List.getElem?_set_ne (fun e => hj (by rw [e]; exact List.mem_singleton.mpr rfl))])⟩
def goL : List Bnd → List PyData → Envi → Option Envi
  | [], [], ρ => some ρ
  | b :: bs, x :: xs, ρ => match b.go x ρ with
    | some ρ1 => goL bs xs ρ1
    | none => none
  | _, _, _ => none
def slL (bs : List Bnd) : List Nat := (bs.map (·.sl)).flatten
def bTup (bs : List Bnd) : Bnd := ⟨slL bs, fun x ρ => match x with
  | .tuple ds => goL bs ds ρ
  | _ => none⟩
def tGs (K : Frg) (bs : List Bnd) : TGs := fun vs σ H Q => ∃ A ρ xs ρ', REnv K A H ρ σ ∧ RpL K A.V H vs xs ∧ goL bs xs ρ = some ρ' ∧ ∀ σ' : L2.St, σ'.length = σ.length → (∀ j, j ∉ slL bs → σ'[j]? = σ[j]?) → REnv K A H ρ' σ' → Q σ' H
theorem gsN : PGs X [] (tGs X.K []) := ⟨fun pins s σ H vs us Q I r h => pgs_nil.run pins s σ H vs us Q I r (by
  obtain ⟨A, ρ, xs, ρ', env, rp, e, q⟩ := h
  cases rp with
  | nil => cases e; exact ⟨rfl, q σ rfl (fun _ _ => rfl) env⟩
  | cons _ _ => cases e)⟩
theorem gsC {e : Expr} {es : List Expr} {b : Bnd} {bs : List Bnd} (h1 : PG X e (tG X.K b)) (h2 : PGs X es (tGs X.K bs))
    (hs : (assignEach (e :: es) X.env).map (·.2) = assign e X.env :: (assignEach es X.env).map (·.2) := by rfl) : PGs X (e :: es) (tGs X.K (b :: bs)) :=
  ⟨fun pins s σ H vs us Q I r h => (pgs_cons h1 h2 hs).run pins s σ H vs us Q I r (by
    obtain ⟨A, ρ, xs, ρ', env, rp, e, q⟩ := h
    cases rp with
    | nil => cases e
    | cons r1 r2 =>
      rename_i v vr x xr
      refine ⟨v, vr, rfl, ?_⟩
      unfold goL at e
      split at e
      · rename_i ρ1 h1
        refine ⟨A, ρ, x, ρ1, env, r1, h1, fun σ1 hl hj env1 => ⟨A, ρ1, xr, ρ', env1, r2, e, fun σ2 hl2 hj2 env2 => q σ2 (hl2.trans hl) (fun j hj' => ?_) env2⟩⟩
        have n1 : j ∉ b.sl := fun m => hj' (by unfold slL; exact List.mem_append_left _ m)
        have n2 : j ∉ slL bs := fun m => hj' (by unfold slL; exact List.mem_append_right _ m)
        exact (hj2 j n2).trans (hj j n1)
      · cases e)⟩
theorem goL_len : ∀ {bs : List Bnd} {xs : List PyData} {ρ ρ' : Envi}, goL bs xs ρ = some ρ' → xs.length = bs.length
  | [], [], _, _, _ => rfl
  | [], _ :: _, _, _, h => by cases h
  | _ :: _, [], _, _, h => by cases h
  | b :: bs, x :: xs, ρ, ρ', h => by
    unfold goL at h
    split at h
    · rw [List.length_cons, List.length_cons, goL_len h]
    · cases h
theorem gT {es : List Expr} {k : Nat} {bs : List Bnd} {n : Nat} (hc : X.calm = true) (h : PGs X es (tGs X.K bs)) (hnb : bs.length = n := by rfl)
    (hn : (assignEach es X.env).length = n := by rfl) (hst : (assignEach es X.env).findIdx? (·.1) = none := by rfl) : PG X (.Tuple es k pos) (tG X.K (bTup bs)) :=
  ⟨fun pins s σ H v u Q I r hw => (pg_tup hc h hn hst).run pins s σ H v u Q I r (by
    obtain ⟨A, ρ, x, ρ', env, rp, e, q⟩ := hw
    cases rp with
    | tup l t =>
      rename_i a xs ds
      exact ⟨a, xs, rfl, l.seq, by rw [t.length, goL_len e, hnb], A, ρ, ds, ρ', env, t, e, q⟩
    | _ => cases e)⟩

/-! ### statements -/
def sNil : Ss := fun ρ S => .ok (.nx ρ) S
def sSeq (f g : Ss) : Ss := fun ρ S => (f ρ S).bind fun w S1 => match w with
  | .nx ρ1 => g ρ1 S1
  | .rt v => .ok (.rt v) S1
  | .bk ρ1 => .ok (.bk ρ1) S1
  | .ct ρ1 => .ok (.ct ρ1) S1
theorem ssN : PSs X [] (tS X.K sNil) := PSsi pss_nil fun D σ H ⟨A, S, ρ, w, env, p⟩ => p A σ H .refl w env
theorem seq_ok {f g : Ss} (w : Wf K A S H) (p : PostS K A H D (sSeq f g ρ S)) : PostS K A H { D with nx := tS K g D } (f ρ S) := by
  unfold sSeq at p
  cases h : f ρ S with
  | no => rw [h] at p; exact p
  | exc e S1 => rw [h] at p; exact p
  | ok v S1 =>
    rw [h] at p
    cases v with
    | nx ρ1 => exact fun A' σ' H' e w1 env => ⟨A', S1, ρ1, w1, env, PostS.shift p e w1⟩
    | rt v => exact p
    | bk ρ1 => exact p
    | ct ρ1 => exact p
theorem ssC {st : Stmt} {rest : List Stmt} {f g : Ss} (h1 : PS X st (tS X.K f)) (h2 : PSs X rest (tS X.K g)) : PSs X (st :: rest) (tS X.K (sSeq f g)) := PSsi (pss_cons h1 h2) fun D σ H ⟨A, S, ρ, w, env, p⟩ => ⟨A, S, ρ, w, env, seq_ok w p⟩
theorem ss1 {st : Stmt} {f : Ss} (h1 : PS X st (tS X.K f)) : PSs X [st] (tS X.K f) := pss_one h1
theorem sPass : PS X (.Pass pos) (tS X.K sNil) := PSi ps_pass fun D σ H ⟨A, S, ρ, w, env, p⟩ => p A σ H .refl w env
def sBk : Ss := fun ρ S => .ok (.bk ρ) S
def sCt : Ss := fun ρ S => .ok (.ct ρ) S
theorem sBreak : PS X (.Break pos) (tS X.K sBk) := PSi ps_break fun D σ H ⟨A, S, ρ, w, env, p⟩ => p A σ H .refl w env
theorem sCont : PS X (.Continue pos) (tS X.K sCt) := PSi ps_continue fun D σ H ⟨A, S, ρ, w, env, p⟩ => p A σ H .refl w env
def sEx (f : Sx) : Ss := fun ρ S => (f ρ S).bind fun _ S1 => .ok (.nx ρ) S1
theorem sExpr (h : PE X a (tE X.K fa)) (hs : swapsWith a none pos.line X.env = pure false := by rfl) : PS X (.Expr a pos) (tS X.K (sEx fa)) := PSi (ps_expr h hs) fun D σ H ⟨A, S, ρ, w, env, p⟩ =>
  at_seq (P := PostS X.K A H D) w env p (fun h => h) (fun _ _ h => h) fun v S1 x H1 e1 w1 r1 p1 => p1 A σ H1 e1 w1 (env.mono e1)
def sRt (f : Sx) : Ss := fun ρ S => (f ρ S).bind fun v S1 => .ok (.rt v) S1
theorem sRet (h : PE X a (tE X.K fa)) : PS X (.Return (some a) pos) (tS X.K (sRt fa)) := PSi (ps_ret h) fun D σ H ⟨A, S, ρ, w, env, p⟩ => ⟨A, S, ρ, w, env, by
  show Post X.K A H D.rt (fa ρ S)
  dsimp only [sRt] at p
  cases q : fa ρ S with
  | no => rw [q] at p; exact p
  | exc e S1 => rw [q] at p; exact p
  | ok v S1 =>
    rw [q] at p
    cases v with
    | d x => exact fun v H' e w r => p A v H' e w r
    | c n => exact fun a H' e w r => p A a H' e w r
    | f k => exact fun a H' e w r => p A a H' e w r
    | z ds => exact fun v H' e w r => p A v H' e w r
    | g cs i => exact fun as a H' e w q l j => p A as a H' e w q l j
    | t its => exact fun v H' e w r => p A v H' e w r
    | o nm => exact fun a H' e w r => p A a H' e w r
    | x => exact fun v H' e w => p A v H' e w⟩
def sRtN : Ss := fun ρ S => .ok (.rt (.d .none)) S
theorem sRetN : PS X (.Return none pos) (tS X.K sRtN) := PSi ps_retN fun D σ H ⟨A, S, ρ, w, env, p⟩ => p A .non H .refl w .non
def sIf (c : SB) (f g : Ss) : Ss := fun ρ S => (c ρ S).bind fun k S1 => if k = true then f ρ S1 else g ρ S1
theorem sIfR {c : Expr} {p q : List Stmt} {gc : SB} {f g : Ss} (hc : PT X c (tB X.K gc)) (ha : PSs X p (tS X.K f)) (hb : PSs X q (tS X.K g)) : PS X (.If c p q pos) (tS X.K (sIf gc f g)) := PSi (ps_if hc ha hb) fun D σ H ⟨A, S, ρ, w, env, p⟩ =>
  ⟨A, S, ρ, w, env, PostB.seq (P := PostS X.K A H D) p (fun h => h) (fun _ _ h => h) fun k S1 H1 e1 w1 p1 => by
    cases k with
    | true => rw [if_pos rfl] at p1 ⊢; exact ⟨A, S1, ρ, w1, env.mono e1, p1.shift e1 w1⟩
    | false => rw [if_neg Bool.false_ne_true] at p1 ⊢; exact ⟨A, S1, ρ, w1, env.mono e1, p1.shift e1 w1⟩⟩
def sSet (i : Nat) (f : Sx) : Ss := fun ρ S => (f ρ S).bind fun v S1 => .ok (.nx (ρ.set i (some v.th))) S1
def sCell (i : Nat) (f : Sx) : Ss := fun ρ S => (f ρ S).bind fun v S1 => match v with
  | .f k => .ok (.nx (ρ.set i (some (.c S1.length)))) (S1 ++ [k])
  | .g cs j => .ok (.nx (ρ.set i (some (.c (S1.length + j))))) (S1 ++ cs)
  | _ => .no
theorem set_ok {i : Nat} {f : Sx} (h : tS K (sSet i f) D σ H) : tAsg (tE K f) (gName i) D σ H := by
  obtain ⟨A, S, ρ, w, env, p⟩ := h
  exact at_seq (P := PostS K A H D) w env p (fun h => h) (fun _ _ h => h) fun v S1 x H1 e1 w1 r1 p1 => p1 A _ H1 e1 w1 ((env.mono e1).set r1)
theorem cell_ok {i : Nat} {f : Sx} (h : tS K (sCell i f) D σ H) : tAsg (tE K f) (gName i) D σ H := by
  obtain ⟨A, S, ρ, w, env, p⟩ := h
  refine ⟨A, S, ρ, w, env, ?_⟩
  show Post K A H _ (f ρ S)
  dsimp only [sCell] at p
  cases q : f ρ S with
  | no => rw [q] at p; exact p
  | exc e S1 => rw [q] at p; exact p
  | ok v S1 =>
    rw [q] at p
    cases v with
    | d x => exact p.elim
    | c n => exact p.elim
    | z ds => exact p.elim
    | x => exact p.elim
    | t its => exact p.elim
    | o nm => exact p.elim
    | g cs j =>
      intro as a H' e w1 hn hl hj
      have e2 : Ext A H (A.pushs as) H' := e.grows (K := K) hn
      refine p (A.pushs as) (σ.set i (some (.ref a))) H' e2 w1 ((env.mono e2).set (v := .c (S1.length + j)) ⟨a, ?_, rfl⟩)
      have l := w1.len
      have l2 : A.A.length = S1.length := by
        simp [Wd.pushs] at l
        omega
      show (A.A ++ as)[S1.length + j]? = some a
      rw [List.getElem?_append_right (by omega), l2, Nat.add_sub_cancel_left]; exact hj
    | f k =>
      intro a H' e w1 hn
      have e2 : Ext A H (A.push a) H' := e.grow hn
      refine p (A.push a) (σ.set i (some (.ref a))) H' e2 w1 ((env.mono e2).set (v := .c S1.length) ⟨a, ?_, rfl⟩)
      show (A.A ++ [a])[S1.length]? = some a
      rw [← w1.drop1.1.len]; simp
section
variable {i : Nat} {x : Str} {pos' : Pos}
theorem sSetR (i : Nat) (hN : X.N.Nodup) (hi : X.N[i]? = some x) (hx : Loc X.env.scope x) (he : PE X a (tE X.K fa)) (hs : swapsWith a (some (.Name x pos')) pos.line X.env = pure false := by rfl)
    (hf : X.fn x = true ∨ X.env.scope.names.lookup x = some .local := by first | exact .inl rfl | exact .inr rfl | assumption) : PS X (.Assign [.Name x pos'] a pos) (tS X.K (sSet i fa)) := PSi (ps_set hN hi hx he hs hf) fun D σ H => set_ok
theorem sCellR (i : Nat) (hN : X.N.Nodup) (hi : X.N[i]? = some x) (hx : Loc X.env.scope x) (he : PE X a (tE X.K fa)) (hs : swapsWith a (some (.Name x pos')) pos.line X.env = pure false := by rfl)
    (hf : X.fn x = true ∨ X.env.scope.names.lookup x = some .local := by first | exact .inl rfl | exact .inr rfl | assumption) : PS X (.Assign [.Name x pos'] a pos) (tS X.K (sCell i fa)) := PSi (ps_set hN hi hx he hs hf) fun D σ H => cell_ok
end
def sAsg (f : Sx) (b : Bnd) : Ss := fun ρ S => (f ρ S).bind fun v S1 => match v.th with
  | .d x => match b.go x ρ with
    | some ρ1 => .ok (.nx ρ1) S1
    | none => .no
  | _ => .no
theorem sAsgR {tg : Expr} {bd : Bnd} (he : PE X a (tE X.K fa)) (hg : PG X tg (tG X.K bd)) (hs : swapsWithSole [tg] a pos.line X.env = pure false := by rfl) (hw : swappedStores [tg] a X.env = pure none := by rfl)
    (h1 : (assignEach [tg] X.env).map (·.2) = [assign tg X.env] := by rfl) : PS X (.Assign [tg] a pos) (tS X.K (sAsg fa bd)) := PSi (ps_asg he hg hs hw h1) fun D σ H ⟨A, S, ρ, w, env, p⟩ =>
  at_seq (P := PostS X.K A H D) w env p (fun h => h) (fun _ _ h => h) fun v S1 x H1 e1 w1 r1 p1 => by
    split at p1
    · rename_i y hy
      rw [hy] at r1
      split at p1
      · rename_i ρ1 h1
        exact ⟨A, ρ, y, ρ1, env.mono e1, r1, h1, fun σ' _ _ env' => p1 A σ' H1 e1 w1 env'⟩
      · exact p1.elim
    · exact p1.elim
/-- a, b = x, y of plain locals -/
def sPar (i j : Nat) (f : SA) : Ss := fun ρ S => (f ρ S).bind fun vs S1 => match vs with
  | [v, w] => .ok (.nx ((ρ.set i (some v)).set j (some w))) S1
  | _ => .no
theorem sParR (i j : Nat) {x y : Str} {f : SA} {px py pt : Pos} {kt k2 pt2} (hc : X.calm = true) (hN : X.N.Nodup) (hi : X.N[i]? = some x) (hj : X.N[j]? = some y) (hij : i ≠ j)
    (hx : X.env.scope.names.lookup x = some .local) (hy : X.env.scope.names.lookup y = some .local) (ha : PA X [a, b] (tAr X.K f)) (hs : swappedStores [.Tuple [.Name x px, .Name y py] kt pt] (.Tuple [a, b] k2 pt2) X.env = pure (some [x, y]) := by rfl) : PS X (.Assign [.Tuple [.Name x px, .Name y py] kt pt] (.Tuple [a, b] k2 pt2) pos) (tS X.K (sPar i j f)) := PSi (ps_par hc hN hi hj hij hx hy ha hs) fun D σ H ⟨A, S, ρ, w, env, p⟩ =>
  ⟨A, S, ρ, w, env, PostA.seq (P := PostS X.K A H D) p (fun h => h) (fun _ _ h => h) fun vs S1 xs H1 e1 w1 r1 p1 => by
    split at p1
    · cases r1 with | cons r1 r2 => cases r2 with | cons r2 r3 => cases r3; exact ⟨_, _, rfl, p1 A _ H1 e1 w1 (((env.mono e1).set r1).set r2)⟩
    · exact p1.elim⟩
/-! ### while -/
def sWhN (c : SB) (b : Ss) : Nat → Ss
  | 0 => fun _ _ => .no
  | n + 1 => fun ρ S => (c ρ S).bind fun k S1 => if k = true then (b ρ S1).bind fun w S2 => match w with
      | .nx ρ1 => sWhN c b n ρ1 S2
      | .ct ρ1 => sWhN c b n ρ1 S2
      | .bk ρ1 => .ok (.nx ρ1) S2
      | .rt v => .ok (.rt v) S2
    else .ok (.nx ρ) S1
theorem sWhile (n : Nat) {c : Expr} {body : List Stmt} {gc : SB} {f : Ss} (hp : PassesOwn (model X.prog X.w) X.A X.env X.xe) (hc : PT X c (tB X.K gc)) (hb : PSs X body (tS X.K f)) : PS X (.While c body [] pos) (tS X.K (sWhN gc f n)) := PSi (ps_while hp hc hb) fun D σ H h => by
  refine ⟨fun m σ H => tS X.K (sWhN gc f m) D σ H, ⟨n, h⟩, ?_⟩
  rintro m σ H ⟨A, S, ρ, w, env, p⟩
  cases m with
  | zero => exact p.elim
  | succ m =>
    refine ⟨A, S, ρ, w, env, PostB.seq (P := PostS X.K A H D) p (fun h => h) (fun _ _ h => h) fun k S1 H1 e1 w1 p1 => ?_⟩
    cases k with
    | false => exact p1 A σ H1 e1 w1 (env.mono e1)
    | true =>
      have p1 : PostS X.K A H1 D ((f ρ S1).bind fun w S2 => match w with
        | .nx ρ1 => sWhN gc f m ρ1 S2
        | .ct ρ1 => sWhN gc f m ρ1 S2
        | .bk ρ1 => .ok (.nx ρ1) S2
        | .rt v => .ok (.rt v) S2) := PostS.shift p1 e1 w1
      rw [if_pos rfl]
      refine ⟨fun σ' H' => tS X.K (sWhN gc f m) D σ' H', fun σ' H' h => ⟨m, Nat.lt_succ_self m, h⟩, A, S1, ρ, w1, env.mono e1, ?_⟩
      show PostS X.K A H1 _ (f ρ S1)
      cases q : f ρ S1 with
      | no => rw [q] at p1; exact p1
      | exc e S2 => rw [q] at p1; exact p1
      | ok v S2 =>
        rw [q] at p1
        cases v with
        | nx ρ1 => exact fun A' σ' H' e w2 env2 => ⟨A', S2, ρ1, w2, env2, PostS.shift p1 e w2⟩
        | ct ρ1 => exact fun A' σ' H' e w2 env2 => ⟨A', S2, ρ1, w2, env2, PostS.shift p1 e w2⟩
        | bk ρ1 => exact p1
        | rt v => exact p1
/-! ### for -/
structure Src where
  items : List PyData
  g : List (Nat × List PyData)
abbrev SI := Envi → Sto → Res Src
def GOk (S : Sto) (s : Src) : Prop := ∀ p ∈ s.g, S[p.1]? = some (.lst p.2)
open Classical in
noncomputable def chk {α : Type} (S : Sto) (s : Src) (r : Res α) : Res α := if GOk S s then r else .no
structure SrcW (K : Frg) (J : It) (s : Src) (B : Wd → Hp → Prop) : Prop where
  mono : ∀ A H A' H', Kx A H A' H' → B A H → B A' H'
  goes : ∀ i A S H, i < s.items.length → Wf K A S H → B A H → GOk S s → J.go i H
  stops : ∀ A S H, Wf K A S H → B A H → GOk S s → J.stop s.items.length H
  yields : ∀ i A S H x H', i < s.items.length → Wf K A S H → B A H → GOk S s → J.yld i H x H' → ∃ d, s.items[i]? = some d ∧ Ext A H A H' ∧ Wf K A S H' ∧ Rp K A.V H' x d
def PostI (K : Frg) (A : Wd) (H : Hp) (R : It → Hp → Prop) : Res Src → Prop
  | .ok s S => ∀ J B H', Ext A H A H' → Wf K A S H' → SrcW K J s B → B A H' → R J H'
  | .exc _ _ => False
  | .no => False
def tI (K : Frg) (f : SI) : TI := fun σ H R => At K σ H fun A ρ S => PostI K A H R (f ρ S)
theorem PostI.seq {β : Type} {P : Res β → Prop} {R : It → Hp → Prop} {r : Res Src} {g : Src → Sto → Res β} (h : P (r.bind g)) (h0 : P .no → False) (h1 : ∀ e S, P (.exc e S) → False)
    (k : ∀ s S1 J B H1, Ext A H A H1 → Wf K A S1 H1 → SrcW K J s B → B A H1 → P (g s S1) → R J H1) : PostI K A H R r := by
  cases r with
  | ok v S1 => exact fun J B H1 e w sw b => k v S1 J B H1 e w sw b h
  | exc e S => exact (h1 _ _ h).elim
  | no => exact (h0 h).elim
theorem chk_ok {β : Type} {P : Res β → Prop} {s : Src} {r : Res β} (h : P (chk S s r)) (h0 : P .no → False) : GOk S s ∧ P r := by
  unfold chk at h
  split at h
  · rename_i g; exact ⟨g, h⟩
  · exact (h0 h).elim
noncomputable def forGo (s : Src) (bd : Bnd) (b : Ss) : List PyData → Ss
  | [] => fun ρ S => chk S s (.ok (.nx ρ) S)
  | x :: xs => fun ρ S => chk S s (match bd.go x ρ with
    | some ρ1 => (b ρ1 S).bind fun w S2 => match w with
      | .nx ρ2 => forGo s bd b xs ρ2 S2
      | .ct ρ2 => forGo s bd b xs ρ2 S2
      | .bk ρ2 => .ok (.nx ρ2) S2
      | .rt v => .ok (.rt v) S2
    | none => .no)
noncomputable def sFo (src : SI) (bd : Bnd) (b : Ss) : Ss := fun ρ S => (src ρ S).bind fun s S1 => forGo s bd b s.items ρ S1
theorem sFor {tg iter : Expr} {body : List Stmt} {src : SI} {bd : Bnd} {f : Ss} (hp : PassesOwn (model X.prog X.w) X.A X.env X.xe) (hc : X.calm = true) (hi : PI X tg iter (tI X.K src)) (hg : PG X tg (tG X.K bd)) (hb : PSs X body (tS X.K f))
    (hs : ∀ x, foldedSetIterable iter X.env x = pure x := by intro _; rfl) : PS X (.For tg iter body [] pos) (tS X.K (sFo src bd f)) := PSi (ps_for hp hc hi hg hb hs) fun D σ H h => by
  obtain ⟨A, S, ρ, w, env, p⟩ := h
  refine ⟨A, S, ρ, w, env, PostI.seq (P := PostS X.K A H D) p (fun h => h) (fun _ _ h => h) fun s S1 J B H1 e1 w1 sw b1 p1 => ?_⟩
  refine ⟨fun i m σ H => i + m = s.items.length ∧ ∃ A S ρ, Wf X.K A S H ∧ REnv X.K A H ρ σ ∧ B A H ∧ PostS X.K A H D (forGo s bd f (s.items.drop i) ρ S), ⟨s.items.length, by simp, A, S1, ρ, w1, env.mono e1, b1, PostS.shift p1 e1 w1⟩, ?_⟩
  rintro i m σ H ⟨him, A, S, ρ, w, env, b, p⟩
  by_cases hi : i < s.items.length
  · rw [List.drop_eq_getElem_cons hi] at p
    obtain ⟨g, p⟩ := chk_ok (P := PostS X.K A H D) p fun h => h
    refine .inr ⟨sw.goes i A S H hi w b g, fun σ' H' => ∃ A S ρ, Wf X.K A S H' ∧ REnv X.K A H' ρ σ' ∧ B A H' ∧ PostS X.K A H' D (forGo s bd f (s.items.drop (i + 1)) ρ S), fun σ' H' h => ⟨m - 1, by omega, by omega, h⟩, fun x H' y => ?_⟩
    obtain ⟨d, hd, e2, w2, r2⟩ := sw.yields i A S H x H' hi w b g y
    rw [List.getElem?_eq_getElem hi] at hd
    cases hd
    split at p
    · rename_i ρ1 hρ
      refine ⟨A, ρ, _, ρ1, env.mono e2, r2, hρ, fun σ2 _ _ env2 => ⟨A, S, ρ1, w2, env2, ?_⟩⟩
      have p := PostS.shift p e2 w2
      have b2 := sw.mono _ _ _ _ e2.kx b
      show PostS X.K A H' _ (f ρ1 S)
      cases q : f ρ1 S with
      | no => rw [q] at p; exact p
      | exc e S2 => rw [q] at p; exact p
      | ok v S2 =>
        rw [q] at p
        cases v with
        | nx ρ2 => exact fun A' σ' H' e w3 env3 => ⟨A', S2, ρ2, w3, env3, sw.mono _ _ _ _ e.kx b2, PostS.shift p e w3⟩
        | ct ρ2 => exact fun A' σ' H' e w3 env3 => ⟨A', S2, ρ2, w3, env3, sw.mono _ _ _ _ e.kx b2, PostS.shift p e w3⟩
        | bk ρ2 => exact p
        | rt v => exact p
    · exact p.elim
  · have hn : i = s.items.length := by omega
    subst hn
    rw [List.drop_length] at p
    obtain ⟨g, p⟩ := chk_ok (P := PostS X.K A H D) p fun h => h
    exact .inl ⟨sw.stops A S H w b g, p A σ H .refl w env⟩
end
end MV
set_option Elab.async false
set_option linter.all false
set_option maxRecDepth 100000
/-! Readings by mirrors: comprehensions, what is walked, defs. -/
namespace MV
open PySem PySem.Spec PyProof.Rows L2
section
variable {X : Cx} {K : Frg} {a b : Expr} {fa fb : Sx} {pos : Pos} {A A' A2 : Wd} {H H' H2 : Hp} {S S' : Sto} {Q : VK} {ρ : Envi} {σ : L2.St} {D : Ends}
theorem Rv.kx {v : V} {x : Val} (e : Kx A H A' H') (r : Rv K A H v x) : Rv K A' H' v x := by
  cases x with
  | d x => exact Rp.mono e.2 r
  | c n =>
    obtain ⟨a, h, rfl⟩ := r
    obtain ⟨B, e1⟩ := e.1
    exact ⟨a, by rw [e1, List.getElem?_append_left (List.getElem?_eq_some_iff.mp h).1]; exact h, rfl⟩
  | f k => exact r
  | g cs i => exact r
  | x => exact r
  | t its => obtain ⟨a, xs, rfl, h, q⟩ := r; exact ⟨a, xs, rfl, h.mono e.2, Paired.mapP q fun v i z => (match i, z with | .d _, z => Rp.mono e.2 z | .c _, ⟨b, h, ev⟩ => ⟨b, (by obtain ⟨B, e1⟩ := e.1; rw [e1, List.getElem?_append_left (List.getElem?_eq_some_iff.mp h).1]; exact h), ev⟩)⟩
  | o nm => exact r
  | z ds => obtain ⟨a, xs, rfl, h, t⟩ := r; exact ⟨a, xs, rfl, h.imp (fun q => e.2.rd q.1 q.2) id, t.mono e.2⟩
theorem REnv.kx (e : Kx A H A' H') (r : REnv K A H ρ σ) : REnv K A' H' ρ σ := ⟨r.len, fun i v h => by
  obtain ⟨x, h1, h2⟩ := r.get i v h
  exact ⟨x, h1, h2.kx e⟩⟩
theorem Wf.protNew {p : Addr} {u : HO} (mu : Mut (some u)) (w : Wf K A S H) (hp : H p = none) : Wf K (A.prot p) S (L2.upd H p u) ∧ Kx A H (A.prot p) (L2.upd H p u) := by
  have kp : Kp A.V H (A.prot p).V (L2.upd H p u) := kp_same fun b o h n => ⟨by rw [upd_ne (ne_of_none h hp)]; exact h, fun m => by
    rcases prot_V.mp m with m | m
    · exact n m
    · rw [m, hp] at h; cases h⟩
  refine ⟨⟨w.len, w.nd, w.lt, fun n c k h1 h2 => (w.ok n c k h1 h2).mono kp (fun u e => by rw [upd_ne (ne_of_none e hp)]; exact e) (w.lt n k h2) (fun _ _ _ h => h), fun q hq => ?_⟩, ⟨[], by simp [Wd.prot]⟩, kp⟩
  rcases List.mem_cons.mp (show q ∈ p :: A.P from hq) with m | m
  · rw [m]; exact ⟨w.offA hp, _, upd_same, mu⟩
  · obtain ⟨n, xs, e, mt⟩ := w.pr q m
    exact ⟨n, xs, by rw [upd_ne (ne_of_none e hp)]; exact e, mt⟩
theorem Wf.protUpd {p : Addr} {u : HO} (mu : Mut (some u)) (w : Wf K A S H) (hp : p ∈ A.P) : Wf K A S (L2.upd H p u) ∧ Kx A H A (L2.upd H p u) := by
  have kp : Kp A.V H A.V (L2.upd H p u) := kp_same fun b o h n => ⟨by rw [upd_ne (fun z => n (by rw [z]; exact Wd.mem.mpr (.inl hp)))]; exact h, n⟩
  refine ⟨⟨w.len, w.nd, w.lt, fun n c k h1 h2 => (w.ok n c k h1 h2).mono kp (fun u e => ?_) (w.lt n k h2) (fun _ _ _ h => h), fun q hq => ?_⟩, ⟨[], by simp⟩, kp⟩
  · rw [upd_ne (fun z => (w.pr p hp).1 (by rw [← z]; exact List.mem_of_getElem? h1))]; exact e
  · by_cases z : q = p
    · rw [z]; exact ⟨(w.pr p hp).1, _, upd_same, mu⟩
    · obtain ⟨n, ys, e, mt⟩ := w.pr q hq
      exact ⟨n, ys, by rw [upd_ne z]; exact e, mt⟩
theorem Wf.protOut {p : Addr} {k : Cell} (w : Wf K (A.prot p) S H) (hx : CellOk K (A.prot p) H p k) (hn : p ∉ A.P) (hk : k.lt S.length = true := by rfl) : Wf K (A.push p) (S ++ [k]) H := by
  have kp : Kp (A.prot p).V H (A.push p).V H := kp_less fun b m => prot_V.mpr (push_V.mp m)
  obtain ⟨npA, _⟩ := w.pr p (List.mem_cons_self)
  refine ⟨by simp [Wd.push]; exact w.len, ?_, lt_push w.lt hk, fun n c k h1 h2 => ?_, fun q hq => ?_⟩
  · show (A.A ++ [p]).Nodup
    rw [List.nodup_append]
    exact ⟨w.nd, by simp, fun x hx y hy e => by rw [List.mem_singleton.mp hy] at e; exact npA (e ▸ hx)⟩
  · have h1' : (A.A ++ [p])[n]? = some c := h1
    have hl : A.A.length = S.length := w.len
    by_cases hn : n < A.A.length
    · rw [List.getElem?_append_left hn] at h1'
      rw [List.getElem?_append_left (by rw [← hl]; exact hn)] at h2
      exact (w.ok n c k h1' h2).mono kp (fun _ h => h) (w.lt n k h2) fun j b _ h => ix_push (W := A) (m := n) j b h
    · have e2 : n = A.A.length := by
        have := (List.getElem?_eq_some_iff.mp h1').1
        simp at this
        omega
      subst e2
      rw [hl] at h2
      simp at h1' h2
      subst h1' h2
      exact hx.mono kp (fun _ h => h) hk fun j b _ h => ix_push (W := A) (m := 0) j b h
  · obtain ⟨n, y⟩ := w.pr q (List.mem_cons_of_mem _ hq)
    refine ⟨fun m => ?_, y⟩
    rcases List.mem_append.mp m with m | m
    · exact n m
    · rw [List.mem_singleton.mp m] at hq; exact hn hq

/-! ### comprehensions -/
def wipeE (ρ : Envi) (vs : List Nat) : Envi := vs.foldl (fun r i => r.set i none) ρ
theorem wipeE_length (ρ : Envi) : ∀ vs : List Nat, (wipeE ρ vs).length = ρ.length := fun vs => by
  unfold wipeE
  induction vs generalizing ρ with
  | nil => rfl
  | cons v vs ih => rw [List.foldl_cons, ih, List.length_set]
theorem wipeE_get {i : Nat} {v : Val} : ∀ {vs : List Nat} {ρ : Envi}, (wipeE ρ vs)[i]? = some (some v) → ρ[i]? = some (some v) ∧ i ∉ vs
  | [], ρ, h => ⟨h, by simp⟩
  | j :: vs, ρ, h => by
    obtain ⟨h1, h2⟩ := wipeE_get (vs := vs) (ρ := ρ.set j none) h
    by_cases e : i = j
    · subst e
      have hl : i < ρ.length := by
        have := (List.getElem?_eq_some_iff.mp h1).1
        rwa [List.length_set] at this
      rw [List.getElem?_set_self hl] at h1
      cases h1
    · rw [List.getElem?_set_ne (Ne.symm e)] at h1
      exact ⟨h1, by simp [e, h2]⟩
theorem REnv.wipe (env : REnv K A H ρ σ) (vs : List Nat) : REnv K A H (wipeE ρ vs) (wipe σ vs) := ⟨by rw [wipe_length, wipeE_length]; exact env.len, fun i v h => by
  obtain ⟨h1, h2⟩ := wipeE_get h
  obtain ⟨x, h3, h4⟩ := env.get i v h1
  have z : ∀ {vs : List Nat} {σ : L2.St}, i ∉ vs → (L2.wipe σ vs)[i]? = σ[i]? := by
    intro vs
    induction vs with
    | nil => intro σ _; rfl
    | cons j vs ih =>
      intro σ hn
      rw [List.mem_cons, not_or] at hn
      show ((L2.wipe σ vs).set j none)[i]? = _
      rw [List.getElem?_set_ne (Ne.symm hn.1)]
      exact ih hn.2
  exact ⟨x, by rw [z h2]; exact h3, h4⟩⟩
noncomputable def cGo (s : Src) (bd : Bnd) (t : SB) (e : Sx) (ρ : Envi) : List PyData → List PyData → Sto → Res (List PyData)
  | [], acc, S => chk S s (.ok acc S)
  | x :: xs, acc, S => chk S s (match bd.go x ρ with
    | some ρ1 => (t ρ1 S).bind fun k S1 => if k = true then (e ρ1 S1).bind fun v S2 => match v.th with
          | .d y => cGo s bd t e ρ xs (acc ++ [y]) S2
          | _ => .no
        else cGo s bd t e ρ xs acc S1
    | none => .no)
noncomputable def evComp (src : SI) (bd : Bnd) (t : SB) (e : Sx) (own : List Nat) : Sx := fun ρ S => (src ρ S).bind fun s S1 =>
  if s.items.length ≤ sizeLine then (cGo s bd t e (wipeE ρ own) s.items [] S1).bind fun ds S2 => .ok (.f (.lst ds)) S2 else .no
def bYes : SB := fun _ S => .ok true S
theorem wipe_back {σ σ2 : L2.St} {vs : List Nat} (hl : σ2.length = (wipe σ vs).length) (h : ∀ j, j ∉ vs → σ2[j]? = (wipe σ vs)[j]?) : wipe σ2 vs = wipe σ vs := by
  have key : ∀ (vs : List Nat) (σ : L2.St) (i : Nat), (L2.wipe σ vs)[i]? = if i ∈ vs then (if i < σ.length then some none else none) else σ[i]? := by
    intro vs
    induction vs with
    | nil => intro σ i; rfl
    | cons j vs ih =>
      intro σ i
      show ((L2.wipe σ vs).set j none)[i]? = _
      by_cases e : i = j
      · subst e
        rw [if_pos (List.mem_cons_self)]
        by_cases hi : i < σ.length
        · rw [if_pos hi, List.getElem?_set_self (by rw [wipe_length]; exact hi)]
        · rw [if_neg hi]
          exact List.getElem?_eq_none_iff.mpr (by rw [List.length_set, wipe_length]; omega)
      · rw [List.getElem?_set_ne (Ne.symm e), ih]
        simp [e]
  apply List.ext_getElem?
  intro i
  rw [key, key]
  rw [wipe_length] at hl
  by_cases hi : i ∈ vs
  · rw [if_pos hi, if_pos hi, hl]
  · rw [if_neg hi, if_neg hi, h i hi, key, if_neg hi]
theorem comp_ok {src : SI} {bd : Bnd} {t : SB} {e : Sx} {own : List Nat} (hsub : ∀ j ∈ bd.sl, j ∈ own) (h : tE K (evComp src bd t e own) σ H Q) : tLc (tI K src) (tG K bd) (tB K t) (tE K e) own σ H Q := by
  obtain ⟨A, S, ρ, w, env, p⟩ := h
  refine ⟨A, S, ρ, w, env, PostI.seq (P := Post K A H Q) p (fun h => h) (fun _ _ h => h) fun s S1 J B H1 e1 w1 sw b1 p1 => ?_⟩
  split at p1
  case isFalse => exact p1.elim
  rename_i hlen
  intro D hD
  have hDP : D ∉ A.P := fun m => w1.off hD (Wd.mem.mpr (.inl m))
  obtain ⟨wD, kD⟩ := w1.protNew (u := .lst []) trivial hD
  have envD := ((env.mono e1).wipe own).kx kD
  refine ⟨fun i m H' => i + m = s.items.length ∧ ∃ S acc xs, acc.length ≤ i ∧ Wf K (A.prot D) S H' ∧ Ext A H1 A H' ∧ H' D = some (.lst xs) ∧ RpL K (A.prot D).V H' xs acc ∧ B (A.prot D) H' ∧ REnv K (A.prot D) H' (wipeE ρ own) (wipe σ own) ∧
      Post K A H Q ((cGo s bd t e (wipeE ρ own) (s.items.drop i) acc S).bind fun ds S2 => .ok (.f (.lst ds)) S2),
    ⟨s.items.length, by simp, S1, [], [], Nat.zero_le _, wD, .laid hD, upd_same, .nil, sw.mono _ _ _ _ kD b1, envD, p1⟩, ?_⟩
  rintro i m H' ⟨him, S, acc, xs, hacc, w, ex, hx, rx, b, env, p⟩
  by_cases hi : i < s.items.length
  · rw [List.drop_eq_getElem_cons hi] at p
    have p : Post K A H Q ((chk S s (match bd.go s.items[i] (wipeE ρ own) with
      | some ρ1 => (t ρ1 S).bind fun k S1 => if k = true then (e ρ1 S1).bind fun v S2 => match v.th with
            | .d y => cGo s bd t e (wipeE ρ own) (s.items.drop (i + 1)) (acc ++ [y]) S2
            | _ => .no
          else cGo s bd t e (wipeE ρ own) (s.items.drop (i + 1)) acc S1
      | none => .no)).bind fun ds S2 => .ok (.f (.lst ds)) S2) := p
    obtain ⟨g, p⟩ := chk_ok (P := fun r => Post K A H Q (Res.bind r fun ds S2 => .ok (.f (.lst ds)) S2)) p fun h => h
    refine .inr ⟨sw.goes i (A.prot D) S H' hi w b g, fun H' => ∃ S acc xs, acc.length ≤ i + 1 ∧ Wf K (A.prot D) S H' ∧ Ext A H1 A H' ∧ H' D = some (.lst xs) ∧ RpL K (A.prot D).V H' xs acc ∧ B (A.prot D) H' ∧ REnv K (A.prot D) H' (wipeE ρ own) (wipe σ own) ∧
      Post K A H Q ((cGo s bd t e (wipeE ρ own) (s.items.drop (i + 1)) acc S).bind fun ds S2 => .ok (.f (.lst ds)) S2), fun H' h => ⟨m - 1, by omega, by omega, h⟩, fun x H'' y => ?_⟩
    obtain ⟨d, hd, e2, w2, r2⟩ := sw.yields i (A.prot D) S H' x H'' hi w b g y
    rw [List.getElem?_eq_getElem hi] at hd
    cases hd
    have toA : ∀ {H3 H4 : Hp}, Ext (A.prot D) H3 (A.prot D) H4 → Ext A H3 A H4 := fun q => ⟨rfl, ⟨[], by simp⟩, fun _ h => .inl h, fun b o h n => let ⟨o', a1, a2, a3⟩ := q.keep b o h n; ⟨o', a1, a2, fun m => a3 (List.mem_cons_of_mem _ m)⟩⟩
    have nDA : D ∉ (A.prot D).A := (w.pr D (List.mem_cons_self)).1
    split at p
    · rename_i ρ1 hρ
      refine ⟨A.prot D, wipeE ρ own, _, ρ1, env.mono e2, r2, hρ, fun σ2 hl hj env2 => ⟨wipe_back hl fun j hn => hj j fun m => hn (hsub j m), A.prot D, S, ρ1, w2, env2, ?_⟩⟩
      have p : Post K A H Q ((t ρ1 S).bind fun k S1 => (if k = true then (e ρ1 S1).bind fun v S2 => match v.th with
            | .d y => cGo s bd t e (wipeE ρ own) (s.items.drop (i + 1)) (acc ++ [y]) S2
            | _ => .no
          else cGo s bd t e (wipeE ρ own) (s.items.drop (i + 1)) acc S1).bind fun ds S2 => .ok (.f (.lst ds)) S2) := by
        cases q : t ρ1 S with
        | ok k S1 => rw [q] at p; exact p
        | exc x S1 => rw [q] at p; exact p
        | no => rw [q] at p; exact p
      refine PostB.seq (P := Post K A H Q) p (fun h => h) (fun _ _ h => h) fun k S3 H3 e3 w3 p3 => ?_
      cases k with
      | false =>
        rw [if_neg Bool.false_ne_true] at p3 ⊢
        exact ⟨S3, acc, xs, by omega, w3, ex.trans (toA (e2.trans e3)), (e2.trans e3).keepL hx nDA, rx.mono (e2.trans e3).kp, sw.mono _ _ _ _ (e2.trans e3).kx b, env.mono (e2.trans e3), p3⟩
      | true =>
        rw [if_pos rfl] at p3 ⊢
        have p3 : Post K A H Q ((e ρ1 S3).bind fun v S2 => (match v.th with
            | .d y => cGo s bd t e (wipeE ρ own) (s.items.drop (i + 1)) (acc ++ [y]) S2
            | _ => .no).bind fun ds S2 => .ok (.f (.lst ds)) S2) := by
          cases q : e ρ1 S3 with
          | ok k S1 => rw [q] at p3; exact p3
          | exc x S1 => rw [q] at p3; exact p3
          | no => rw [q] at p3; exact p3
        refine at_seq (P := Post K A H Q) w3 (env2.mono e3) p3 (fun h => h) (fun _ _ h => h) fun v S4 y H4 e4 w4 r4 p4 => ?_
        split at p4
        · rename_i yd hy
          rw [hy] at r4
          have e24 := (e2.trans e3).trans e4
          have hx4 := e24.keepL hx nDA
          obtain ⟨w5, k5⟩ := w4.protUpd (p := D) (u := .lst (xs ++ [y])) trivial (List.mem_cons_self)
          have r4 : Rp K (A.prot D).V H4 y yd := r4
          refine ⟨xs, hx4, ?_, S4, acc ++ [yd], xs ++ [y], by rw [List.length_append, List.length_singleton]; omega, w5, ?_, upd_same, ((rx.mono e24.kp).append (.cons r4 .nil)).mono k5.2, sw.mono _ _ _ _ k5 (sw.mono _ _ _ _ e24.kx b), (env.mono e24).kx k5, p4⟩
          · rw [rx.length]; omega
          · refine ⟨rfl, ⟨[], by simp⟩, fun _ h => .inl h, fun c o hc nc => ?_⟩
            rw [upd_ne (fun z => by rw [z, hD] at hc; cases hc)]
            exact (ex.trans (toA e24)).keep c o hc nc
        · exact p4.elim
    · exact p.elim
  · have hn : i = s.items.length := by omega
    subst hn
    rw [List.drop_length] at p
    obtain ⟨g, p⟩ := chk_ok (P := fun r => Post K A H Q (Res.bind r fun ds S2 => .ok (.f (.lst ds)) S2)) p fun h => h
    exact .inl ⟨sw.stops (A.prot D) S H' w b g, p D H' (e1.trans ex) (w.protOut (k := .lst _) ⟨_, hx, rx⟩ hDP) (e1.free w1 hD)⟩
end
end MV
set_option Elab.async false
set_option linter.all false
set_option maxRecDepth 100000
/-! Readings by mirrors: the rule for comprehensions, what is walked, defs. -/
namespace MV
open PySem PySem.Spec PyProof.Rows L2
section
variable {X : Cx} {K : Frg} {a b : Expr} {fa fb : Sx} {pos : Pos} {A A' A2 : Wd} {H H' H2 : Hp} {S S' : Sto} {Q : VK} {ρ : Envi} {σ : L2.St} {D : Ends}
theorem PTsi {e : List Expr} {t t' : TT} (h : PTs X e t) (i : ∀ σ H Q, t' σ H Q → t σ H Q) : PTs X e t' := ⟨fun pins s σ H Q I q => h.run pins s σ H Q I (i σ H Q q)⟩
theorem PIi {tg it : Expr} {t t' : TI} (h : PI X tg it t) (i : ∀ σ H R, t' σ H R → t σ H R) : PI X tg it t' := ⟨fun pins s σ H R I q => h.run pins s σ H R I (i σ H R q)⟩
theorem tsN : PTs X [] (tB X.K bYes) := PTsi pts_nil fun σ H Q ⟨A, S, ρ, w, env, p⟩ => p H .refl w
theorem ts1 {c : Expr} {g : SB} (h : PT X c (tB X.K g)) : PTs X [c] (tB X.K g) := pts_one h
section
variable {elt tg iter : Expr} {ifs : List Expr} {scope : Scope} {own : List (Str × Nat)} {src : SI} {bd : Bnd} {t : SB} {e : Sx}
theorem eComp (hc : X.calm = true) (hN : X.N.Nodup) (hi : PI X tg iter (tI X.K src)) (ok : BlkOk X.N X.env.scope scope own) (hsub : ∀ j ∈ bd.sl, j ∈ own.map (·.2))
    (hg : ∀ (s : Shared) (H : Hp) (C : Addr) (cl : List (Str × Addr)) (fp : List Addr), PG (X.blk s H scope (compEnvC scope cl C X.env) fp) tg (tG X.K bd)) (ht : ∀ (s : Shared) (H : Hp) (C : Addr) (cl : List (Str × Addr)) (fp : List Addr), PTs (X.blk s H scope (compEnvC scope cl C X.env) fp) ifs (tB X.K t))
    (he : ∀ (s : Shared) (H : Hp) (C : Addr) (cl : List (Str × Addr)) (fp : List Addr), PE (X.blk s H scope (compEnvC scope cl C X.env) fp) elt (tE X.K e)) (hs : ∀ x, foldedSetIterable iter X.env x = pure x := by intro _; rfl) :
    PE X (.ListComp elt [⟨tg, iter, ifs, 0⟩] scope pos) (tE X.K (evComp src bd t e (own.map (·.2)))) := PEi (pe_lc hc hN hi ok hg ht he hs) fun σ H Q => comp_ok hsub
section
variable {i : Nat} {y : Str} {py spos : Pos}
theorem sSetLc (i : Nat) (hc : X.calm = true) (hN : X.N.Nodup) (hy : X.N[i]? = some y) (hyl : X.env.scope.names.lookup y = some .local) (hsw : swapsWith (.ListComp elt [⟨tg, iter, ifs, 0⟩] scope pos) (some (.Name y py)) spos.line X.env = pure true)
    (hi : PI X tg iter (tI X.K src)) (ok : BlkOk X.N X.env.scope scope own) (hsub : ∀ j ∈ bd.sl, j ∈ own.map (·.2))
    (hg : ∀ (s : Shared) (H : Hp) (C : Addr) (cl : List (Str × Addr)) (fp : List Addr), PG (X.blk s H scope (compEnvC scope cl C X.env) fp) tg (tG X.K bd)) (ht : ∀ (s : Shared) (H : Hp) (C : Addr) (cl : List (Str × Addr)) (fp : List Addr), PTs (X.blk s H scope (compEnvC scope cl C X.env) fp) ifs (tB X.K t))
    (he : ∀ (s : Shared) (H : Hp) (C : Addr) (cl : List (Str × Addr)) (fp : List Addr), PE (X.blk s H scope (compEnvC scope cl C X.env) fp) elt (tE X.K e)) (hs : ∀ x, foldedSetIterable iter X.env x = pure x := by intro _; rfl) :
    PS X (.Assign [.Name y py] (.ListComp elt [⟨tg, iter, ifs, 0⟩] scope pos) spos) (tS X.K (sSet i (evComp src bd t e (own.map (·.2))))) := PSi (ps_setLc hc hN hy hyl hsw hi ok hg ht he hs) fun D σ H h => comp_ok hsub (set_ok h)
theorem sCellLc (i : Nat) (hc : X.calm = true) (hN : X.N.Nodup) (hy : X.N[i]? = some y) (hyl : X.env.scope.names.lookup y = some .local) (hsw : swapsWith (.ListComp elt [⟨tg, iter, ifs, 0⟩] scope pos) (some (.Name y py)) spos.line X.env = pure true)
    (hi : PI X tg iter (tI X.K src)) (ok : BlkOk X.N X.env.scope scope own) (hsub : ∀ j ∈ bd.sl, j ∈ own.map (·.2))
    (hg : ∀ (s : Shared) (H : Hp) (C : Addr) (cl : List (Str × Addr)) (fp : List Addr), PG (X.blk s H scope (compEnvC scope cl C X.env) fp) tg (tG X.K bd)) (ht : ∀ (s : Shared) (H : Hp) (C : Addr) (cl : List (Str × Addr)) (fp : List Addr), PTs (X.blk s H scope (compEnvC scope cl C X.env) fp) ifs (tB X.K t))
    (he : ∀ (s : Shared) (H : Hp) (C : Addr) (cl : List (Str × Addr)) (fp : List Addr), PE (X.blk s H scope (compEnvC scope cl C X.env) fp) elt (tE X.K e)) (hs : ∀ x, foldedSetIterable iter X.env x = pure x := by intro _; rfl) :
    PS X (.Assign [.Name y py] (.ListComp elt [⟨tg, iter, ifs, 0⟩] scope pos) spos) (tS X.K (sCell i (evComp src bd t e (own.map (·.2))))) := PSi (ps_setLc hc hN hy hyl hsw hi ok hg ht he hs) fun D σ H h => comp_ok hsub (cell_ok h)
end
end

/-! ### rows of things -/
def seqOf (S : Sto) : Val → Option (Bool × List PyData × List (Nat × List PyData))
  | .d (.tuple ds) => some (true, ds, [])
  | .d (.list ds) => some (false, ds, [])
  | .z ds => some (false, ds, [])
  | .c n => match S[n]? with
    | some (.lst ds) => some (false, ds, [(n, ds)])
    | _ => none
  | _ => none
def SqA (K : Frg) (t : Bool) (H : Hp) (a : Addr) (xs : List V) : Prop := if t = true then SqT K H a xs else SqL K H a xs
theorem seq_stand {x : V} {v : Val} {S0 : Sto} {t : Bool} {ds : List PyData} {g : List (Nat × List PyData)} (h : seqOf S0 v = some (t, ds, g)) (w : Wf K A S H) (r : Rv K A H x v) (hg : ∀ p ∈ g, S[p.1]? = some (.lst p.2)) :
    ∃ a xs, x = .ref a ∧ RpL K A.V H xs ds ∧ SqA K t H a xs := by
  cases v with
  | f k => cases h
  | g cs i => cases h
  | x => cases h
  | t its => cases h
  | o nm => cases h
  | d y =>
    cases y with
    | tuple es =>
      cases h
      have r' : Rp K A.V H x (.tuple ds) := r
      cases r' with | tup l q => exact ⟨_, _, rfl, q, l.seq⟩
    | list es =>
      cases h
      have r' : Rp K A.V H x (.list ds) := r
      cases r' with | lst l q => exact ⟨_, _, rfl, q, l.seq⟩
    | _ => cases h
  | z es =>
    cases h
    obtain ⟨a, xs, rfl, h1, q⟩ := r
    exact ⟨a, xs, rfl, q, h1.elim (fun z => .inl z.1) klst_seq⟩
  | c n =>
    have h : (match S0[n]? with
      | some (.lst es) => some (false, es, [(n, es)])
      | _ => none) = some (t, ds, g) := h
    split at h
    · rename_i es q
      cases h
      have e := hg (n, ds) (by simp)
      obtain ⟨a, h1, rfl⟩ := r
      obtain ⟨xs, h2, h3⟩ := w.ok n a _ h1 e
      exact ⟨a, xs, rfl, h3, .inl (.inl h2)⟩
    · cases h
theorem seq_now {v : Val} {t : Bool} {ds : List PyData} {g : List (Nat × List PyData)} (h : seqOf S v = some (t, ds, g)) : ∀ p ∈ g, S[p.1]? = some (.lst p.2) := by
  cases v with
  | f k => cases h
  | g cs i => cases h
  | x => cases h
  | t its => cases h
  | o nm => cases h
  | d y => cases y <;> first | (cases h; done) | (cases h; simp)
  | z es => cases h; simp
  | c n =>
    have h : (match S[n]? with
      | some (.lst es) => some (false, es, [(n, es)])
      | _ => none) = some (t, ds, g) := h
    split at h
    · rename_i es q
      cases h
      simpa using q
    · cases h
theorem seq_at {x : V} {v : Val} {t : Bool} {ds : List PyData} {g : List (Nat × List PyData)} (h : seqOf S v = some (t, ds, g)) (w : Wf K A S H) (r : Rv K A H x v) : ∃ a xs, x = .ref a ∧ RpL K A.V H xs ds ∧ SqA K t H a xs := seq_stand h w r (seq_now h)

/-! ### what is walked: a row -/
theorem src_list {v : Val} {S0 : Sto} {ds : List PyData} {g : List (Nat × List PyData)} {a : Addr} (h : seqOf S0 v = some (false, ds, g)) : SrcW K (Itl K a) ⟨ds, g⟩ (fun A H => Rv K A H (.ref a) v) where
  mono := fun A H A' H' e r => r.kx e
  goes := fun i A S H hi w r gk => by
    obtain ⟨b, xs, eb, q, sq⟩ := seq_stand h w r gk
    cases eb
    obtain ⟨y, hy, _⟩ := q.get (List.getElem?_eq_getElem hi)
    exact ⟨xs, y, sq, hy⟩
  stops := fun A S H w r gk => by
    obtain ⟨b, xs, eb, q, sq⟩ := seq_stand h w r gk
    cases eb
    exact ⟨xs, sq, Nat.le_of_eq q.length⟩
  yields := fun i A S H x H' hi w r gk y => by
    obtain ⟨b, xs, eb, q, sq⟩ := seq_stand h w r gk
    cases eb
    obtain ⟨rfl, y⟩ := y
    obtain ⟨d, hd, rd⟩ := q.getV (y xs sq)
    exact ⟨d, hd, .refl, w, rd⟩
theorem src_tup {v : Val} {S0 : Sto} {ds : List PyData} {g : List (Nat × List PyData)} {a : Addr} (h : seqOf S0 v = some (true, ds, g)) : SrcW K (Itt K a) ⟨ds, g⟩ (fun A H => Rv K A H (.ref a) v) where
  mono := fun A H A' H' e r => r.kx e
  goes := fun i A S H hi w r gk => by
    obtain ⟨b, xs, eb, q, sq⟩ := seq_stand h w r gk
    cases eb
    obtain ⟨y, hy, _⟩ := q.get (List.getElem?_eq_getElem hi)
    exact ⟨xs, y, sq, hy⟩
  stops := fun A S H w r gk => by
    obtain ⟨b, xs, eb, q, sq⟩ := seq_stand h w r gk
    cases eb
    exact ⟨xs, sq, Nat.le_of_eq q.length⟩
  yields := fun i A S H x H' hi w r gk y => by
    obtain ⟨b, xs, eb, q, sq⟩ := seq_stand h w r gk
    cases eb
    obtain ⟨rfl, y⟩ := y
    obtain ⟨d, hd, rd⟩ := q.getV (y xs sq)
    exact ⟨d, hd, .refl, w, rd⟩
def iSeq (f : Sx) : SI := fun ρ S => (f ρ S).bind fun v S1 => match seqOf S1 v.th with
  | some (_, ds, g) => .ok ⟨ds, g⟩ S1
  | none => .no
theorem one_fp {pins : List (Addr × Obj)} {s : Shared} (I : Inv X pins σ H s) : ∀ b ∈ [s.heap.objs.size], FpOk X pins H b := fun b hb => by
  rw [List.mem_singleton.mp hb]
  exact I.fpOk (Nat.le_refl _) (I.hok.fresh (Nat.le_refl _))
theorem iS {tg l : Expr} {f : Sx} (hl : PE X l (tE X.K f)) : PI X tg l (tI X.K (iSeq f)) := ⟨fun pins s σ H R I h => by
  obtain ⟨A, S, ρ, w, env, p⟩ := h
  refine thn (hl.run pins s σ H (fun x H1 => ∃ a S1 v t ds g, x = .ref a ∧ Wf X.K A S1 H1 ∧ Rv X.K A H1 (.ref a) v ∧ seqOf S1 v = some (t, ds, g) ∧ ∀ J B, SrcW X.K J ⟨ds, g⟩ B → B A H1 → R J H1) I ⟨A, S, ρ, w, env, ?_⟩) fun v s1 ⟨x, H1, I1, r1, a, S1, u, t, ds, g, ex, w1, ru, hq, q⟩ => ?_
  · refine Post.seq (P := PostI X.K A H R) p (fun h => h) (fun _ _ h => h) fun v S1 x H1 e1 w1 r1 p1 => ?_
    split at p1
    · rename_i t ds g hq
      obtain ⟨a, xs, rfl, _, _⟩ := seq_at hq w1 r1
      exact ⟨a, S1, v.th, t, ds, g, rfl, w1, r1, hq, fun J B sw b => p1 J B H1 e1 w1 sw b⟩
    · exact p1.elim
  · subst ex
    cases r1
    obtain ⟨b, xs, eb, _, sq⟩ := seq_at hq w1 ru
    cases eb
    cases t with
    | true =>
      obtain ⟨its, rv, ht, hz⟩ := I1.tuple (show SqT X.K H1 a xs from sq)
      refine wpAny_pyIter_tuple (show s1.heap.IsTuple a its.toArray from ht) ⟨s1.heap.objs.size, [s1.heap.objs.size], _, _, H1, rfl, ?_, turn_tuple a _, ⟨_, Heap.get?_push_size _ rfl, rfl, rfl⟩, one_fp I1, q _ _ (src_tup hq) ru⟩
      exact I1.kept (t' := s1.toks) fun b o e => Heap.get?_push_of_some _ e
    | false =>
      obtain ⟨its, rv, pl, hz⟩ := I1.list (show SqL X.K H1 a xs from sq)
      refine wpAny_pyIter_list pl.isList ⟨s1.heap.objs.size, [s1.heap.objs.size], _, _, H1, rfl, ?_, turn_list a _, ⟨_, Heap.get?_push_size _ rfl, rfl, rfl⟩, one_fp I1, q _ _ (src_list hq) ru⟩
      exact I1.kept (t' := s1.toks) fun b o e => Heap.get?_push_of_some _ e⟩

/-! ### .. a range -/
def iota (lo : Int) (n : Nat) : List PyData := (List.range n).map fun (i : Nat) => .int (lo + i)
theorem iota_length (lo : Int) (n : Nat) : (iota lo n).length = n := by simp [iota]
theorem iota_get {lo : Int} {n i : Nat} (h : i < n) : (iota lo n)[i]? = some (.int (lo + i)) := by simp [iota, h]
theorem src_range {lo : Int} {n : Nat} : SrcW K (Itr lo n) ⟨iota lo n, []⟩ (fun _ _ => True) where
  mono := fun _ _ _ _ _ _ => trivial
  goes := fun i A S H hi w _ _ => by rw [iota_length] at hi; exact hi
  stops := fun A S H w _ _ => by rw [iota_length]; exact Nat.le_refl _
  yields := fun i A S H x H' hi w _ _ y => by
    obtain ⟨rfl, rfl⟩ := y
    rw [iota_length] at hi
    exact ⟨_, iota_get hi, .refl, w, .int _⟩
def gRange1 : List Val → Option Src
  | [.d (.int j)] => if -(2 ^ 62) ≤ j ∧ j < 2 ^ 62 then some ⟨iota 0 j.toNat, []⟩ else none
  | _ => none
def gRange2 : List Val → Option Src
  | [.d (.int i), .d (.int j)] => if -(2 ^ 62) ≤ i ∧ i < 2 ^ 62 ∧ -(2 ^ 62) ≤ j ∧ j < 2 ^ 62 then some ⟨iota i (j - i).toNat, []⟩ else none
  | _ => none
def iBy (g : List Val → Option Src) (f : SA) : SI := fun ρ S => (f ρ S).bind fun vs S1 => match g vs with
  | some s => .ok s S1
  | none => .no
theorem iR1 {tg e : Expr} {f : SA} {p : Pos} (hg : Gl X "range") (hm : X.mg "range" = none) (ha : PA X [e] (tAr X.K f)) (hs : starEach [e] X.env = [(false, eval e X.env)] := by rfl) : PI X tg (.Call (.Name "range" p) [e] [] pos) (tI X.K (iBy gRange1 f)) :=
  PIi (pi_range1 hg hm ha hs) fun σ H R ⟨A, S, ρ, w, env, p⟩ => ⟨A, S, ρ, w, env, PostA.seq (P := PostI X.K A H R) p (fun h => h) (fun _ _ h => h) fun vs S1 xs H1 e1 w1 r1 p1 => by
    split at p1
    · rename_i s hs
      unfold gRange1 at hs
      split at hs
      · split at hs
        · rename_i c
          cases hs
          cases r1 with | cons q r1 => cases r1; cases q; exact ⟨_, rfl, c.1, c.2, p1 _ _ H1 e1 w1 src_range trivial⟩
        · cases hs
      · cases hs
    · exact p1.elim⟩
theorem iR2 {tg e e2 : Expr} {f : SA} {p : Pos} (hg : Gl X "range") (hm : X.mg "range" = none) (ha : PA X [e, e2] (tAr X.K f)) (hs : starEach [e, e2] X.env = [(false, eval e X.env), (false, eval e2 X.env)] := by rfl) (hs2 : starEach [e2] X.env = [(false, eval e2 X.env)] := by rfl) :
    PI X tg (.Call (.Name "range" p) [e, e2] [] pos) (tI X.K (iBy gRange2 f)) :=
  PIi (pi_range2 hg hm ha hs hs2) fun σ H R ⟨A, S, ρ, w, env, p⟩ => ⟨A, S, ρ, w, env, PostA.seq (P := PostI X.K A H R) p (fun h => h) (fun _ _ h => h) fun vs S1 xs H1 e1 w1 r1 p1 => by
    split at p1
    · rename_i s hs
      unfold gRange2 at hs
      split at hs
      · split at hs
        · rename_i c
          cases hs
          cases r1 with | cons q r1 => cases r1 with | cons q2 r1 => cases r1; cases q; cases q2; exact ⟨_, _, rfl, c, p1 _ _ H1 e1 w1 src_range trivial⟩
        · cases hs
      · cases hs
    · exact p1.elim⟩

/-! ### defs -/
/-- the items of a tuple at a def's end: its own cells are data from there on -/
def frzs (n : Nat) (S : Sto) : List Itm → Option (List PyData)
  | [] => some []
  | .d x :: r => (frzs n S r).map (x :: ·)
  | .c m :: r => if n ≤ m then match S[m]? with
    | some (.lst ds) => (frzs n S r).map (.list ds :: ·)
    | some (.dic ps) => (frzs n S r).map (.dict ps :: ·)
    | _ => none
    else none
def out (n : Nat) (S : Sto) : Val → Res Val
  | .c j => if j < n then .ok (.c j) (S.take n) else match S[j]? with
    | some k => if k.lt n = true then .ok (.f k) (S.take n) else .ok (.g (S.drop n) (j - n)) (S.take n)
    | none => .no
  | .f k => if k.lt n = true then .ok (.f k) (S.take n) else .ok (.g (S.drop n ++ [k]) (S.length - n)) (S.take n)
  | .g cs i => .ok (.g (S.drop n ++ cs) (S.length - n + i)) (S.take n)
  | .t its => match frzs n S its with
    | some ds => .ok (.d (.tuple ds)) (S.take n)
    | none => .no
  | v => .ok v (S.take n)
section
variable {K : Frg} {A A' : Wd} {H H' : Hp} {S S1 : Sto} {Q : VK}
theorem frzs_items (w : Wf K A S H) (e : Ext A H A' H') (w1 : Wf K A' S1 H') (hl : ∀ b, b ∈ A.V → b ∈ A'.V) : ∀ {its : List Itm} {ds : List PyData} {xs : List V}, frzs S.length S1 its = some ds → Paired (ItmOk K A' H') xs its → RpL K A.V H' xs ds
  | [], _, _, h, .nil => by cases h; exact .nil
  | .d x :: r, ds, _, h, .cons r1 r2 => by
    unfold frzs at h
    obtain ⟨es, h1, rfl⟩ := Option.map_eq_some_iff.mp h
    exact .cons (Rp.mono (kp_less hl) r1) (frzs_items w e w1 hl h1 r2)
  | .c m :: r, ds, _, h, .cons r1 r2 => by
    obtain ⟨a, ha, rfl⟩ := r1
    unfold frzs at h
    split at h
    case isFalse => cases h
    rename_i hm
    have off : a ∉ A.V := fun q => by
      rcases Wd.mem.mp q with q | q
      · exact (w1.pr a (by rw [e.pr]; exact q)).1 (List.mem_of_getElem? ha)
      · obtain ⟨B, h1⟩ := e.pre
        obtain ⟨j, hj, q2⟩ := List.mem_iff_getElem.mp q
        have z : A'.A[j]? = some a := by rw [h1, List.getElem?_append_left hj, List.getElem?_eq_getElem hj, q2]
        have := (List.getElem?_inj (by rw [h1, List.length_append]; omega) w1.nd).mp (z.trans ha.symm)
        have := w.len
        omega
    split at h
    · rename_i ds' hs
      obtain ⟨es, h1, rfl⟩ := Option.map_eq_some_iff.mp h
      obtain ⟨ys, h2, h3⟩ := w1.ok m a _ ha hs
      exact .cons (.lst ⟨h2, off⟩ (h3.mono (kp_less hl))) (frzs_items w e w1 hl h1 r2)
    · rename_i ps' hs
      obtain ⟨es, h1, rfl⟩ := Option.map_eq_some_iff.mp h
      obtain ⟨ys, h2, h3⟩ := w1.ok m a _ ha hs
      exact .cons (.dic (.inl h2) off (h3.mono (kp_less hl))) (frzs_items w e w1 hl h1 r2)
    · cases h
theorem frzs_ok (w : Wf K A S H) (e : Ext A H A' H') (w1 : Wf K A' S1 H') (hl : ∀ b, b ∈ A.V → b ∈ A'.V) {its : List Itm} {ds : List PyData} {v : V} (h : frzs S.length S1 its = some ds) (r : Rv K A' H' v (.t its)) : Rp K A.V H' v (.tuple ds) := by
  obtain ⟨a, xs, rfl, t, q⟩ := r
  exact .tup (t.mono (kp_less hl)) (frzs_items w e w1 hl h q)
theorem out_t (w : Wf K A S H) {its : List Itm} (p : Post K A H Q (out S.length S1 (.t its))) (hsl : ∀ {A' : Wd} {H' : Hp}, Ext A H A' H' → Wf K A' S1 H' → Wf K A (S1.take S.length) H') (lessV : ∀ {A' : Wd} {H' : Hp}, Ext A H A' H' → ∀ b, b ∈ A.V → b ∈ A'.V) : PostR K A S1 H Q (.t its) := by
  intro A' v H' e w1 r
  have p : Post K A H Q (match frzs S.length S1 its with | some ds => .ok (.d (.tuple ds)) (S1.take S.length) | none => .no) := p
  cases h : frzs S.length S1 its with
  | none => rw [h] at p; exact p.elim
  | some ds =>
    rw [h] at p
    exact p v H' (Ext.less (B := []) e) (hsl e w1) (frzs_ok w e w1 (lessV e) h r)
end
theorem Ext.fresh {W W' : Wd} {H H' : Hp} (e : Ext W H W' H') (nd : W'.A.Nodup) : ∃ B, W' = W.pushs B ∧ ∀ b ∈ B, H b = none := by
  obtain ⟨B, h1⟩ := e.pre
  refine ⟨B, ?_, fun b hb => ?_⟩
  · cases W'
    have h2 := e.pr
    dsimp only at h1 h2
    subst h1 h2
    rfl
  · rcases e.new b (by rw [h1]; exact List.mem_append_right _ hb) with q | q
    · rw [h1, List.nodup_append] at nd
      exact (nd.2.2 b q b hb rfl).elim
    · exact q
def mkFn (np N : Nat) (body : Ss) : Fn := fun vs S => if vs.length = np then (body (vs.map some ++ List.replicate (N - np) none) S).bind fun w S1 => match w with
    | .nx _ => .ok (.d .none) (S1.take S.length)
    | .rt v => out S.length S1 v
    | _ => .no
  else .no
theorem fn_ok {P : Program} {w : World} {mg : Str → Option Value} {base : Heap} {x qual : Str} {st : Stmt} {f : Addr} {fd : FuncData} {N ps : List Str} {k np : Nat} {body : Ss} (F : Fun K x qual st f fd) (S : FnScope N ps (defScope st)) (hnp : ps.length = np)
    (h : ∀ (cdv : Value) (A : Around) (outer : List PySem.Env) (s : Shared) (H : Hp) (E : XK), Room k (A.deeper (envOfC qual (defScope st) s.heap.objs.size f cdv)) → A.guards = some [] → PSs (cxOf CX0 P w K mg base N qual (defScope st) f cdv A outer s H E).nox (defBody st) (tS K body)) :
    FnG P w K mg base (k + 1) f fd ps (spF K (mkFn np N.length body)) := by
  refine fnG_of F S (fun xs H Q E h => ?_) (fun cdv A outer s H xs Q E hr gd hp => ⟨_, h cdv A outer s H E hr gd, ?_⟩)
  · obtain ⟨A, S, vs, _, r, p⟩ := h
    unfold mkFn at p
    split at p
    · rename_i hl
      rw [Paired.length r, hl, hnp]
    · exact p.elim
  · obtain ⟨A, St, vs, w, r, p⟩ := hp
    unfold mkFn at p
    split at p
    case isFalse => exact p.elim
    rename_i hl
    have hxl : xs.length = np := (Paired.length r).trans hl
    show tS K body _ (L2.start N xs) H
    refine ⟨A, St, vs.map some ++ List.replicate (N.length - np) none, w, ?_, ?_⟩
    · refine ⟨by simp [L2.start, hxl, hl], fun i v hi => ?_⟩
      by_cases c : i < vs.length
      · rw [List.getElem?_append_left (by rw [List.length_map]; exact c), List.getElem?_map, List.getElem?_eq_getElem c] at hi
        simp at hi
        subst hi
        have z : ∀ {xs : List V} {vs : List Val} {i : Nat} (c : i < vs.length), RvL K A H xs vs → ∃ x, xs[i]? = some x ∧ Rv K A H x vs[i] := by
          intro xs vs i c r
          induction r generalizing i with
          | nil => simp at c
          | cons h t ih =>
            cases i with
            | zero => exact ⟨_, rfl, h⟩
            | succ i => exact ih (i := i) (by simpa using c)
        obtain ⟨y, h1, h2⟩ := z c r
        refine ⟨y, ?_, h2⟩
        unfold L2.start
        rw [List.getElem?_append_left (by rw [List.length_map, hxl, ← hl]; exact c), List.getElem?_map, h1]; rfl
      · rw [List.getElem?_append_right (by rw [List.length_map]; omega)] at hi
        have := List.mem_of_getElem? hi
        simp at this
    · show PostS K A H { nx := fun _ H' => Q .non H', rt := Q } (body (vs.map some ++ List.replicate (N.length - np) none) St)
      generalize hr : body (vs.map some ++ List.replicate (N.length - np) none) St = r at p ⊢
      cases r with
      | no => exact p
      | exc e S1 => exact p
      | ok v S1 =>
        have hsl : ∀ {A' H'}, Ext A H A' H' → Wf K A' S1 H' → Wf K A (S1.take St.length) H' := fun e w1 => by
          rw [← w.len]; exact w1.less e
        cases v with
        | nx ρ1 => exact fun A' σ' H' e w1 _ => p .non H' (Ext.less (B := []) e) (hsl e w1) .non
        | bk ρ1 => exact p.elim
        | ct ρ1 => exact p.elim
        | rt v =>
          have p : Post K A H Q (out St.length S1 v) := p
          have lessV : ∀ {A' : Wd} {H' : Hp}, Ext A H A' H' → ∀ b, b ∈ A.V → b ∈ A'.V := fun {A' H'} e b m => by
            rw [Wd.mem] at m ⊢
            obtain ⟨B, h1⟩ := e.pre
            rw [e.pr, h1]
            exact m.imp id fun m => List.mem_append_left _ m
          have lessRp : ∀ {A' : Wd} {H' : Hp} {v : V} {d : PyData}, Ext A H A' H' → Rp K A'.V H' v d → Rp K A.V H' v d := fun {A' H' v d} e r => r.mono (kp_less (lessV e))
          cases v with
          | d x => exact fun A' v H' e w1 r => p v H' (Ext.less (B := []) e) (hsl e w1) (lessRp e r)
          | z ds =>
            intro A' v H' e w1 r
            obtain ⟨a, ys, rfl, h1, t1⟩ := r
            exact p _ H' (Ext.less (B := []) e) (hsl e w1) ⟨a, ys, rfl, h1.imp (fun q => ⟨q.1, fun m => q.2 (lessV e a m)⟩) id, t1.mono (kp_less (lessV e))⟩
          | x => exact fun A' v H' e w1 => p v H' (Ext.less (B := []) e) (hsl e w1)
          | t its => exact out_t w p hsl lessV
          | o nm => exact fun A' v H' e w1 r => p v H' (Ext.less (B := []) e) (hsl e w1) r
          | g cs i =>
            intro A' as a H' e w1 hn hl hi
            obtain ⟨B, rfl, hB⟩ := e.fresh (by have := w1.nd; exact (List.nodup_append.mp this).1)
            have p : Post K A H Q (.ok (.g (S1.drop St.length ++ cs) (S1.length - St.length + i)) (S1.take St.length)) := p
            have l1 := w.len
            have l2 := w1.len
            simp [Wd.pushs] at l2
            refine p (B ++ as) a H' (Ext.less (B := []) e) ?_ (fun b hb => ?_) (by simp; omega) ?_
            · rw [← List.append_assoc, List.take_append_drop]
              have e2 : (A.pushs B).pushs as = A.pushs (B ++ as) := by simp [Wd.pushs]
              rw [← e2]; exact w1
            · rcases List.mem_append.mp hb with m | m
              · exact hB b m
              · exact hn b m
            · rw [List.getElem?_append_right (by omega)]
              rw [show S1.length - St.length + i - B.length = i by omega]; exact hi
          | f k =>
            intro A' a H' e w1 hn
            have p : Post K A H Q (if k.lt St.length = true then .ok (.f k) (S1.take St.length) else .ok (.g (S1.drop St.length ++ [k]) (S1.length - St.length)) (S1.take St.length)) := p
            obtain ⟨w2, c, na⟩ := w1.drop1
            have e2 : Ext A H (A'.push a) H' := by
              refine ⟨e.pr, ?_, fun b m => ?_, e.keep⟩
              · obtain ⟨B, h1⟩ := e.pre
                exact ⟨B ++ [a], by show A'.A ++ [a] = _; rw [h1, List.append_assoc]⟩
              · rcases List.mem_append.mp m with m | m
                · exact e.new b m
                · rw [List.mem_singleton.mp m]; exact .inr hn
            by_cases hk : k.lt St.length = true
            · rw [if_pos hk] at p
              have hp := w1.pick (j := A'.A.length) (a := a) (k := k) e2 (by obtain ⟨B, h1⟩ := e.pre; rw [h1]; simp) (by simp [Wd.push]) (by rw [w2.len]; simp) (by rw [w.len]; exact hk)
              refine p a H' (Ext.less (B := []) e) ?_ hn
              have q := hp.1
              have hle : A.A.length ≤ S1.length := by rw [← w2.len]; obtain ⟨B, h1⟩ := e.pre; rw [h1]; simp
              rw [List.take_append_of_le_length hle, w.len] at q
              exact q
            · rw [if_neg hk] at p
              obtain ⟨B, rfl, hB⟩ := e.fresh w2.nd
              have l1 := w.len
              have l2 := w2.len
              simp [Wd.pushs] at l2
              refine p (B ++ [a]) a H' (Ext.less (B := []) e) ?_ (fun b hb => ?_) (by simp; omega) ?_
              · rw [← List.append_assoc, List.take_append_drop]
                have e3 : (A.pushs B).push a = A.pushs (B ++ [a]) := by simp [Wd.pushs, Wd.push]
                rw [← e3]; exact w1
              · rcases List.mem_append.mp hb with m | m
                · exact hB b m
                · rw [List.mem_singleton.mp m]; exact hn
              · rw [List.getElem?_append_right (by omega)]
                rw [show S1.length - St.length - B.length = 0 by omega]; rfl
          | c j =>
            intro A' a H' e w1 hj
            have p : Post K A H Q (if j < St.length then .ok (.c j) (S1.take St.length) else match S1[j]? with
              | some k => if k.lt St.length = true then .ok (.f k) (S1.take St.length) else .ok (.g (S1.drop St.length) (j - St.length)) (S1.take St.length)
              | none => .no) := p
            by_cases hjn : j < St.length
            · rw [if_pos hjn] at p
              refine p a H' (Ext.less (B := []) e) (hsl e w1) ?_
              obtain ⟨B, h1⟩ := e.pre
              rw [h1, List.getElem?_append_left (by rw [w.len]; exact hjn)] at hj
              exact hj
            · rw [if_neg hjn] at p
              split at p
              · rename_i k hk
                by_cases hlk : k.lt St.length = true
                · rw [if_pos hlk] at p
                  have hp := w1.pick (j := j) (a := a) (k := k) e (by rw [w.len]; omega) hj hk (by rw [w.len]; exact hlk)
                  have q := hp.1
                  rw [w.len] at q
                  exact p a H' (Ext.less (B := []) e) q hp.2
                · rw [if_neg hlk] at p
                  obtain ⟨B, rfl, hB⟩ := e.fresh w1.nd
                  have l1 := w.len
                  have l2 := w1.len
                  simp [Wd.pushs] at l2
                  refine p B a H' (Ext.less (B := []) e) ?_ hB (by simp; omega) ?_
                  · rw [List.take_append_drop]; exact w1
                  · have hj : (A.A ++ B)[j]? = some a := hj
                    rw [List.getElem?_append_right (by omega), l1] at hj; exact hj
              · exact p.elim
end
end MV
set_option Elab.async false
set_option linter.all false
set_option maxRecDepth 100000
set_option maxHeartbeats 1000000
/-! == of two data of which one holds no dict; != of anything and a text. -/
namespace MV
open PySem PySem.SeqAt
open PySem.AutoSeq1 (wpAny_loadPart')
open PySem.MeetsSeq PySem.MeetsSeq2 PySem.MeetsSeq3 PySem.SeqRoads2
/-- a dict stands at a -/
def DictHere (h : Heap) (a : Addr) : Prop := ∃ dd es n sl, h.get? a = some { cls := .type "dict", dict := dd, data := .dict es n, slots := sl }
theorem slot_dict_ne : Slot "dict" (cmpInfo .NotEq).2.1 "dict.__ne__" :=
  .of (owner := "dict") (n := "__ne__") (by rw [typeLookup_type, builtinLookup_eq_fast]; kernel_rfl) (by decide +kernel) (by decide +kernel) (by decide +kernel) (by first | exact .inl (by decide +kernel) | exact .inr (by decide +kernel)) (by rw [isSubtype_type]; kernel_rfl)
theorem entry_dict_ne : entryFor table "dict.__ne__" = some Builtin.«dict.__ne__» := entryFor_of_tree (by kernel_rfl)
theorem args_dict_ne_2 (a b : Value) : argsOk "dict.__ne__" ⟨[a, b], []⟩ := by
  unfold argsOk
  rw [signature?_of (id := "dict.__ne__") (n := ['_', '_', 'e', 'n', '_', '_']) (o := ['t', 'c', 'i', 'd']) (by kernel_rfl) PySem.F.owner_dict]
  kernel_rfl
section
variable {prog : Program} {w : World} {A : Around} {E : Value → Shared → Prop} {s : Shared}
theorem DictHere.ty {a : Addr} (d : DictHere s.heap a) : s.TypeIs (.ref a) "dict" := by
  obtain ⟨dd, es, n, sl, h1⟩ := d
  exact ⟨_, h1, rfl⟩
/-- dict.__eq__ declines what is no dict -/
theorem dict_eq_off {a : Addr} {x : Value} {T : String} {Q : Value → Shared → Prop} (d : DictHere s.heap a) (tx : s.TypeIs x T) (hs : isSubtype (.type T) (.type "dict") = pure false) (h : Q .notImplemented s) :
    wpAny (model prog w) A (call (.builtin "dict.__eq__") [.ref a, x]) Q E s := by
  refine wpAny_call_entry PySem.F.slot_dict_eq d.ty PySem.F.entry_dict_eq ?_ (PySem.F.args_dict_eq_2 _ _)
  show wpAny _ _ (Builtin.Dict.dictSlotArgs "__eq__" ⟨[.ref a, x], []⟩ >>= _) _ _ s
  refine wpAny_bind ?_
  unfold Builtin.Dict.dictSlotArgs
  refine wpAny_bind (wpAny_notOrdered_dict d.ty ?_)
  show wpAny _ _ (pure (Value.ref a, x)) _ _ s
  refine wpAny_pure ?_
  refine wpAny_bind (wpAny_isInstance (T := T) tx hs ?_)
  simp only [Bool.not_false, if_true]
  refine wpAny_bind (wpAny_rule ?_)
  exact wpAny_pure ⟨_, rfl, h⟩
/-- dict.__ne__ declines what is no dict -/
theorem dict_ne_off {a : Addr} {x : Value} {T : String} {Q : Value → Shared → Prop} (d : DictHere s.heap a) (tx : s.TypeIs x T) (hs : isSubtype (.type T) (.type "dict") = pure false) (h : Q .notImplemented s) :
    wpAny (model prog w) A (call (.builtin "dict.__ne__") [.ref a, x]) Q E s := by
  refine wpAny_call_entry slot_dict_ne d.ty entry_dict_ne ?_ (args_dict_ne_2 _ _)
  show wpAny _ _ (Builtin.Dict.dictSlotArgs "__ne__" ⟨[.ref a, x], []⟩ >>= _) _ _ s
  refine wpAny_bind ?_
  unfold Builtin.Dict.dictSlotArgs
  refine wpAny_bind (wpAny_notOrdered_dict d.ty ?_)
  show wpAny _ _ (pure (Value.ref a, x)) _ _ s
  refine wpAny_pure ?_
  refine wpAny_bind (wpAny_isInstance (T := T) tx hs ?_)
  simp only [Bool.not_false, if_true]
  refine wpAny_bind (wpAny_rule ?_)
  exact wpAny_pure ⟨_, rfl, h⟩
theorem int_off_b (l : Addr) (dd : Option Addr) (es : Array DictEntry) (n : Nat) (sl : Array (Option Value)) (b : Bool) : Meets (Builtin.«int.__eq__» ⟨[.bool b, .ref l], []⟩) (fun _ R s => s.heap.get? l = some { cls := .type "dict", dict := dd, data := .dict es n, slots := sl } ∧ R (.ok (.ret .notImplemented)) s) := .of_wp fun prog w A R s h => by
  obtain ⟨hp, g, d, tk, os⟩ := s
  obtain ⟨hl, h⟩ := h
  wp_walk using wpAny_load hl
  exact ⟨_, rfl, h⟩
theorem int_off_i (l : Addr) (dd : Option Addr) (es : Array DictEntry) (n : Nat) (sl : Array (Option Value)) (b : Int) (u : Tok) : Meets (Builtin.«int.__eq__» ⟨[.int b u, .ref l], []⟩) (fun _ R s => s.heap.get? l = some { cls := .type "dict", dict := dd, data := .dict es n, slots := sl } ∧ R (.ok (.ret .notImplemented)) s) := .of_wp fun prog w A R s h => by
  obtain ⟨hp, g, d, tk, os⟩ := s
  obtain ⟨hl, h⟩ := h
  wp_walk using wpAny_load hl
  exact ⟨_, rfl, h⟩
theorem str_off_s (l : Addr) (dd : Option Addr) (es : Array DictEntry) (n : Nat) (sl : Array (Option Value)) (b : Str) (u : Tok) : Meets (Builtin.«str.__eq__» ⟨[.str b u, .ref l], []⟩) (fun _ R s => s.heap.get? l = some { cls := .type "dict", dict := dd, data := .dict es n, slots := sl } ∧ R (.ok (.ret .notImplemented)) s) := .of_wp fun prog w A R s h => by
  obtain ⟨hp, g, d, tk, os⟩ := s
  obtain ⟨hl, h⟩ := h
  wp_walk using wpAny_load hl
  exact ⟨_, rfl, h⟩
theorem str_nff_s (l : Addr) (dd : Option Addr) (es : Array DictEntry) (n : Nat) (sl : Array (Option Value)) (b : Str) (u : Tok) : Meets (Builtin.«str.__ne__» ⟨[.str b u, .ref l], []⟩) (fun _ R s => s.heap.get? l = some { cls := .type "dict", dict := dd, data := .dict es n, slots := sl } ∧ R (.ok (.ret .notImplemented)) s) := .of_wp fun prog w A R s h => by
  obtain ⟨hp, g, d, tk, os⟩ := s
  obtain ⟨hl, h⟩ := h
  wp_walk using wpAny_load hl
  exact ⟨_, rfl, h⟩
theorem list_off (b l : Addr) (its : Array Value) (m : Nat) (d2 : Option Addr) (s2 : Array (Option Value)) (dd : Option Addr) (es : Array DictEntry) (n : Nat) (sl : Array (Option Value)) : Meets (Builtin.«list.__eq__» ⟨[.ref b, .ref l], []⟩) (fun _ R s => s.heap.get? b = some { cls := .type "list", dict := d2, data := .seq its m, slots := s2 } ∧ s.heap.get? l = some { cls := .type "dict", dict := dd, data := .dict es n, slots := sl } ∧ R (.ok (.ret .notImplemented)) s) := .of_wp fun prog w A R s h => by
  obtain ⟨hp, g, d, tk, os⟩ := s
  obtain ⟨hb, hl, h⟩ := h
  have f1 := F.sub_dict_list
  wp_walk using wpAny_loadPart' hb, wpAny_load hl
  exact ⟨_, rfl, h⟩
theorem tuple_off (b l : Addr) (its : Array Value) (m : Nat) (d2 : Option Addr) (s2 : Array (Option Value)) (dd : Option Addr) (es : Array DictEntry) (n : Nat) (sl : Array (Option Value)) : Meets (Builtin.«tuple.__eq__» ⟨[.ref b, .ref l], []⟩) (fun _ R s => s.heap.get? b = some { cls := .type "tuple", dict := d2, data := .seq its m, slots := s2 } ∧ s.heap.get? l = some { cls := .type "dict", dict := dd, data := .dict es n, slots := sl } ∧ R (.ok (.ret .notImplemented)) s) := .of_wp fun prog w A R s h => by
  obtain ⟨hp, g, d, tk, os⟩ := s
  obtain ⟨hb, hl, h⟩ := h
  have f1 := F.sub_dict_tuple
  wp_walk using wpAny_loadPart' hb, wpAny_load hl
  exact ⟨_, rfl, h⟩
theorem rc_dict_none {a : Addr}  (d : DictHere s.heap a) (hu : A.units < cLine) : RcAt A s (.ref a) .none false := fun prog w E Q h => by
  obtain ⟨dd, es, n, sl, ho⟩ := id d
  exact rc_eq_decline_or (k := false) d.ty rfl (by decide) F.sub_NoneType_dict PySem.F.slot_dict_eq F.slot_NoneType_eq_refl (fun _ hq => dict_eq_off (T := "NoneType") d rfl F.sub_NoneType_dict hq) (fun _ hq => call_gives F.slot_NoneType_eq_refl rfl F.entry_NoneType_eq (F.args_NoneType_eq_2 _ _) (NoneType___eq___none_ref_0 a) hq)
    (fun _ hq => wpAny_of_eq (rfl : isSame (.ref a) .none = pure false) hq) (.inr hu) h
theorem rc_none_dict {a : Addr}  (d : DictHere s.heap a) (hu : A.units < cLine) : RcAt A s .none (.ref a) false := fun prog w E Q h => by
  obtain ⟨dd, es, n, sl, ho⟩ := id d
  exact rc_eq_decline_or (k := false) rfl d.ty (by decide) F.sub_dict_NoneType F.slot_NoneType_eq PySem.F.slot_dict_eq_refl (fun _ hq => call_gives F.slot_NoneType_eq rfl F.entry_NoneType_eq (F.args_NoneType_eq_2 _ _) (NoneType___eq___none_ref_0 a) hq) (fun _ hq => dict_eq_off (T := "NoneType") d rfl F.sub_NoneType_dict hq)
    (fun _ hq => wpAny_of_eq (rfl : isSame .none (.ref a) = pure false) hq) (.inr hu) h
theorem eq_dict_none {a : Addr}  (d : DictHere s.heap a) (hu : A.units < cLine) : EqAt A s (.ref a) .none false := fun prog w E Q h => by
  unfold eqBool
  refine wpAny_holding (wpAny_ite_split (fun q => absurd (eq_of_beq q) nofun) fun _ => ?_)
  exact wpAny_bind (rc_dict_none  d hu prog w E _ (wpAny_truthy_bool h))
theorem eq_none_dict {a : Addr}  (d : DictHere s.heap a) (hu : A.units < cLine) : EqAt A s .none (.ref a) false := fun prog w E Q h => by
  unfold eqBool
  refine wpAny_holding (wpAny_ite_split (fun q => absurd (eq_of_beq q) nofun) fun _ => ?_)
  exact wpAny_bind (rc_none_dict  d hu prog w E _ (wpAny_truthy_bool h))
theorem rc_dict_bool {a : Addr} (b : Bool) (d : DictHere s.heap a) (hu : A.units < cLine) : RcAt A s (.ref a) (.bool b) false := fun prog w E Q h => by
  obtain ⟨dd, es, n, sl, ho⟩ := id d
  exact rc_eq_decline_or (k := false) d.ty rfl (by decide) F.sub_bool_dict PySem.F.slot_dict_eq F.slot_bool_eq_refl (fun _ hq => dict_eq_off (T := "bool") d rfl F.sub_bool_dict hq) (fun _ hq => call_meets F.slot_bool_eq_refl rfl F.entry_int_eq (F.args_int_eq_2 _ _) (int_off_b a _ _ _ _ b) ⟨ho, hq⟩)
    (fun _ hq => wpAny_of_eq (rfl : isSame (.ref a) (.bool b) = pure false) hq) (.inr hu) h
theorem rc_bool_dict {a : Addr} (b : Bool) (d : DictHere s.heap a) (hu : A.units < cLine) : RcAt A s (.bool b) (.ref a) false := fun prog w E Q h => by
  obtain ⟨dd, es, n, sl, ho⟩ := id d
  exact rc_eq_decline_or (k := false) rfl d.ty (by decide) F.sub_dict_bool F.slot_bool_eq PySem.F.slot_dict_eq_refl (fun _ hq => call_meets F.slot_bool_eq rfl F.entry_int_eq (F.args_int_eq_2 _ _) (int_off_b a _ _ _ _ b) ⟨ho, hq⟩) (fun _ hq => dict_eq_off (T := "bool") d rfl F.sub_bool_dict hq)
    (fun _ hq => wpAny_of_eq (rfl : isSame (.bool b) (.ref a) = pure false) hq) (.inr hu) h
theorem eq_dict_bool {a : Addr} (b : Bool) (d : DictHere s.heap a) (hu : A.units < cLine) : EqAt A s (.ref a) (.bool b) false := fun prog w E Q h => by
  unfold eqBool
  refine wpAny_holding (wpAny_ite_split (fun q => absurd (eq_of_beq q) nofun) fun _ => ?_)
  exact wpAny_bind (rc_dict_bool b d hu prog w E _ (wpAny_truthy_bool h))
theorem eq_bool_dict {a : Addr} (b : Bool) (d : DictHere s.heap a) (hu : A.units < cLine) : EqAt A s (.bool b) (.ref a) false := fun prog w E Q h => by
  unfold eqBool
  refine wpAny_holding (wpAny_ite_split (fun q => absurd (eq_of_beq q) nofun) fun _ => ?_)
  exact wpAny_bind (rc_bool_dict b d hu prog w E _ (wpAny_truthy_bool h))
theorem rc_dict_int {a : Addr} (b : Int) (u : Tok) (d : DictHere s.heap a) (hu : A.units < cLine) : RcAt A s (.ref a) (.int b u) false := fun prog w E Q h => by
  obtain ⟨dd, es, n, sl, ho⟩ := id d
  exact rc_eq_decline_or (k := false) d.ty (typeIs_int s b u) (by decide) F.sub_int_dict PySem.F.slot_dict_eq F.slot_int_eq_refl (fun _ hq => dict_eq_off (T := "int") d (typeIs_int s b u) F.sub_int_dict hq) (fun _ hq => call_meets F.slot_int_eq_refl (typeIs_int s b u) F.entry_int_eq (F.args_int_eq_2 _ _) (int_off_i a _ _ _ _ b u) ⟨ho, hq⟩)
    (fun _ hq => wpAny_of_eq (rfl : isSame (.ref a) (.int b u) = pure false) hq) (.inr hu) h
theorem rc_int_dict {a : Addr} (b : Int) (u : Tok) (d : DictHere s.heap a) (hu : A.units < cLine) : RcAt A s (.int b u) (.ref a) false := fun prog w E Q h => by
  obtain ⟨dd, es, n, sl, ho⟩ := id d
  exact rc_eq_decline_or (k := false) (typeIs_int s b u) d.ty (by decide) F.sub_dict_int F.slot_int_eq PySem.F.slot_dict_eq_refl (fun _ hq => call_meets F.slot_int_eq (typeIs_int s b u) F.entry_int_eq (F.args_int_eq_2 _ _) (int_off_i a _ _ _ _ b u) ⟨ho, hq⟩) (fun _ hq => dict_eq_off (T := "int") d (typeIs_int s b u) F.sub_int_dict hq)
    (fun _ hq => wpAny_of_eq (rfl : isSame (.int b u) (.ref a) = pure false) hq) (.inr hu) h
theorem eq_dict_int {a : Addr} (b : Int) (u : Tok) (d : DictHere s.heap a) (hu : A.units < cLine) : EqAt A s (.ref a) (.int b u) false := fun prog w E Q h => by
  unfold eqBool
  refine wpAny_holding (wpAny_ite_split (fun q => absurd (eq_of_beq q) nofun) fun _ => ?_)
  exact wpAny_bind (rc_dict_int b u d hu prog w E _ (wpAny_truthy_bool h))
theorem eq_int_dict {a : Addr} (b : Int) (u : Tok) (d : DictHere s.heap a) (hu : A.units < cLine) : EqAt A s (.int b u) (.ref a) false := fun prog w E Q h => by
  unfold eqBool
  refine wpAny_holding (wpAny_ite_split (fun q => absurd (eq_of_beq q) nofun) fun _ => ?_)
  exact wpAny_bind (rc_int_dict b u d hu prog w E _ (wpAny_truthy_bool h))
theorem rc_dict_str {a : Addr} (b : Str) (u : Tok) (d : DictHere s.heap a) (hu : A.units < cLine) : RcAt A s (.ref a) (.str b u) false := fun prog w E Q h => by
  obtain ⟨dd, es, n, sl, ho⟩ := id d
  exact rc_eq_decline_or (k := false) d.ty (typeIs_str s b u) (by decide) F.sub_str_dict PySem.F.slot_dict_eq F.slot_str_eq_refl (fun _ hq => dict_eq_off (T := "str") d (typeIs_str s b u) F.sub_str_dict hq) (fun _ hq => call_meets F.slot_str_eq_refl (typeIs_str s b u) F.entry_str_eq (F.args_str_eq_2 _ _) (str_off_s a _ _ _ _ b u) ⟨ho, hq⟩)
    (fun _ hq => wpAny_of_eq (rfl : isSame (.ref a) (.str b u) = pure false) hq) (.inr hu) h
theorem rc_str_dict {a : Addr} (b : Str) (u : Tok) (d : DictHere s.heap a) (hu : A.units < cLine) : RcAt A s (.str b u) (.ref a) false := fun prog w E Q h => by
  obtain ⟨dd, es, n, sl, ho⟩ := id d
  exact rc_eq_decline_or (k := false) (typeIs_str s b u) d.ty (by decide) F.sub_dict_str F.slot_str_eq PySem.F.slot_dict_eq_refl (fun _ hq => call_meets F.slot_str_eq (typeIs_str s b u) F.entry_str_eq (F.args_str_eq_2 _ _) (str_off_s a _ _ _ _ b u) ⟨ho, hq⟩) (fun _ hq => dict_eq_off (T := "str") d (typeIs_str s b u) F.sub_str_dict hq)
    (fun _ hq => wpAny_of_eq (rfl : isSame (.str b u) (.ref a) = pure false) hq) (.inr hu) h
theorem eq_dict_str {a : Addr} (b : Str) (u : Tok) (d : DictHere s.heap a) (hu : A.units < cLine) : EqAt A s (.ref a) (.str b u) false := fun prog w E Q h => by
  unfold eqBool
  refine wpAny_holding (wpAny_ite_split (fun q => absurd (eq_of_beq q) nofun) fun _ => ?_)
  exact wpAny_bind (rc_dict_str b u d hu prog w E _ (wpAny_truthy_bool h))
theorem eq_str_dict {a : Addr} (b : Str) (u : Tok) (d : DictHere s.heap a) (hu : A.units < cLine) : EqAt A s (.str b u) (.ref a) false := fun prog w E Q h => by
  unfold eqBool
  refine wpAny_holding (wpAny_ite_split (fun q => absurd (eq_of_beq q) nofun) fun _ => ?_)
  exact wpAny_bind (rc_str_dict b u d hu prog w E _ (wpAny_truthy_bool h))
theorem ne_dict_list {h : Heap} {a b : Addr} {its : Array Value} (d : DictHere h a) (hb : h.IsList b its) : a ≠ b := fun e => by
  subst e
  obtain ⟨dd, es, n, sl, ho⟩ := d
  obtain ⟨o, h1, h2, _⟩ := hb
  rw [ho] at h1
  cases h1
  exact absurd h2 (by simp)
theorem rc_dict_list {a b : Addr} {its : Array Value} (d : DictHere s.heap a) (hb : s.heap.IsList b its) (hu : A.units < cLine) : RcAt A s (.ref a) (.ref b) false := fun prog w E Q h => by
  have ne := ne_dict_list d hb
  obtain ⟨dd, es, n, sl, ho⟩ := id d
  obtain ⟨⟨cls, d2, data, s2⟩, h1, h2, m, h3⟩ := id hb
  simp only at h2 h3
  subst h2 h3
  exact rc_eq_decline_or (k := false) d.ty ⟨_, h1, rfl⟩ (by decide) F.sub_list_dict PySem.F.slot_dict_eq F.slot_list_eq_refl (fun _ hq => dict_eq_off (T := "list") d ⟨_, h1, rfl⟩ F.sub_list_dict hq)
    (fun _ hq => call_meets F.slot_list_eq_refl ⟨_, h1, rfl⟩ F.entry_list_eq (F.args_list_eq_2 _ _) (list_off b a its m d2 s2 dd es n sl) ⟨h1, ho, hq⟩) (fun _ hq => wpAny_isSame_ref_other ne ho h1 (by simp) hq) (.inr hu) h
theorem rc_list_dict {a b : Addr} {its : Array Value} (d : DictHere s.heap a) (hb : s.heap.IsList b its) (hu : A.units < cLine) : RcAt A s (.ref b) (.ref a) false := fun prog w E Q h => by
  have ne := (ne_dict_list d hb).symm
  obtain ⟨dd, es, n, sl, ho⟩ := id d
  obtain ⟨⟨cls, d2, data, s2⟩, h1, h2, m, h3⟩ := id hb
  simp only at h2 h3
  subst h2 h3
  exact rc_eq_decline_or (k := false) ⟨_, h1, rfl⟩ d.ty (by decide) F.sub_dict_list F.slot_list_eq PySem.F.slot_dict_eq_refl
    (fun _ hq => call_meets F.slot_list_eq ⟨_, h1, rfl⟩ F.entry_list_eq (F.args_list_eq_2 _ _) (list_off b a its m d2 s2 dd es n sl) ⟨h1, ho, hq⟩) (fun _ hq => dict_eq_off (T := "list") d ⟨_, h1, rfl⟩ F.sub_list_dict hq)
    (fun _ hq => wpAny_isSame_ref_other ne h1 ho (by simp) hq) (.inr hu) h
theorem ne_dict_tuple {h : Heap} {a b : Addr} {its : Array Value} (d : DictHere h a) (hb : h.IsTuple b its) : a ≠ b := fun e => by
  subst e
  obtain ⟨dd, es, n, sl, ho⟩ := d
  obtain ⟨o, h1, h2, _⟩ := hb
  rw [ho] at h1
  cases h1
  exact absurd h2 (by simp)
theorem rc_dict_tuple {a b : Addr} {its : Array Value} (d : DictHere s.heap a) (hb : s.heap.IsTuple b its) (hu : A.units < cLine) : RcAt A s (.ref a) (.ref b) false := fun prog w E Q h => by
  have ne := ne_dict_tuple d hb
  obtain ⟨dd, es, n, sl, ho⟩ := id d
  obtain ⟨⟨cls, d2, data, s2⟩, h1, h2, m, h3⟩ := id hb
  simp only at h2 h3
  subst h2 h3
  exact rc_eq_decline_or (k := false) d.ty ⟨_, h1, rfl⟩ (by decide) F.sub_tuple_dict PySem.F.slot_dict_eq F.slot_tuple_eq_refl (fun _ hq => dict_eq_off (T := "tuple") d ⟨_, h1, rfl⟩ F.sub_tuple_dict hq)
    (fun _ hq => call_meets F.slot_tuple_eq_refl ⟨_, h1, rfl⟩ F.entry_tuple_eq (F.args_tuple_eq_2 _ _) (tuple_off b a its m d2 s2 dd es n sl) ⟨h1, ho, hq⟩) (fun _ hq => wpAny_isSame_ref_other ne ho h1 (by simp) hq) (.inr hu) h
theorem rc_tuple_dict {a b : Addr} {its : Array Value} (d : DictHere s.heap a) (hb : s.heap.IsTuple b its) (hu : A.units < cLine) : RcAt A s (.ref b) (.ref a) false := fun prog w E Q h => by
  have ne := (ne_dict_tuple d hb).symm
  obtain ⟨dd, es, n, sl, ho⟩ := id d
  obtain ⟨⟨cls, d2, data, s2⟩, h1, h2, m, h3⟩ := id hb
  simp only at h2 h3
  subst h2 h3
  exact rc_eq_decline_or (k := false) ⟨_, h1, rfl⟩ d.ty (by decide) F.sub_dict_tuple F.slot_tuple_eq PySem.F.slot_dict_eq_refl
    (fun _ hq => call_meets F.slot_tuple_eq ⟨_, h1, rfl⟩ F.entry_tuple_eq (F.args_tuple_eq_2 _ _) (tuple_off b a its m d2 s2 dd es n sl) ⟨h1, ho, hq⟩) (fun _ hq => dict_eq_off (T := "tuple") d ⟨_, h1, rfl⟩ F.sub_tuple_dict hq)
    (fun _ hq => wpAny_isSame_ref_other' ne h1 ho (by simp) hq) (.inr hu) h
theorem ne_dict_str {a : Addr} (b : Str) (u : Tok) (d : DictHere s.heap a) (hu : A.units < cLine) : RcNeAt A s (.ref a) (.str b u) true := fun prog w E Q h => by
  obtain ⟨dd, es, n, sl, ho⟩ := id d
  exact rc_ne_decline_or (k := false) d.ty (typeIs_str s b u) (by decide) F.sub_str_dict slot_dict_ne F.slot_str_ne_refl (fun _ hq => dict_ne_off (T := "str") d (typeIs_str s b u) F.sub_str_dict hq)
    (fun _ hq => call_meets F.slot_str_ne_refl (typeIs_str s b u) F.entry_str_ne (F.args_str_ne_2 _ _) (str_nff_s a _ _ _ _ b u) ⟨ho, hq⟩) (fun _ hq => wpAny_of_eq (rfl : isSame (.ref a) (.str b u) = pure false) hq) (.inr hu) h
end
end MV
set_option Elab.async false
set_option linter.all false
set_option maxRecDepth 100000
set_option maxHeartbeats 1000000
/-! == of two data of which one holds no dict. -/
namespace MV
open PySem PySem.SeqAt PySem.Spec PyProof.Rows L2
mutual
/-- a value reads as a datum, dicts unread -/
inductive Rh (h : Heap) : Value → PyData → Prop
  | non : Rh h .none .none
  | bl (b : Bool) : Rh h (.bool b) (.bool b)
  | int (i : Int) (t : Tok) : Rh h (.int i t) (.int i)
  | str (x : Str) (t : Tok) : Rh h (.str x t) (.str x)
  | lst {a : Addr} {vs : Array Value} {ds : List PyData} : h.IsList a vs → RhL h vs.toList ds → Rh h (.ref a) (.list ds)
  | tup {a : Addr} {vs : Array Value} {ds : List PyData} : h.IsTuple a vs → RhL h vs.toList ds → Rh h (.ref a) (.tuple ds)
  | dic {a : Addr} {ps : List (PyData × PyData)} : DictHere h a → Rh h (.ref a) (.dict ps)
inductive RhL (h : Heap) : List Value → List PyData → Prop
  | nil : RhL h [] []
  | cons {v : Value} {vs : List Value} {d : PyData} {ds : List PyData} : Rh h v d → RhL h vs ds → RhL h (v :: vs) (d :: ds)
end
theorem RhL.length {h : Heap} : ∀ {vs : List Value} {ds : List PyData}, RhL h vs ds → vs.length = ds.length
  | _, _, .nil => rfl
  | _, _, .cons _ t => by rw [List.length_cons, List.length_cons, RhL.length t]
theorem RhL.at_ {h : Heap} : ∀ {vs : List Value} {ds : List PyData}, RhL h vs ds → ∀ j (h1 : j < vs.length), Rh h vs[j] (ds.getD j .none)
  | _, _, .nil, j, h1 => absurd h1 (Nat.not_lt_zero _)
  | _, _, .cons r _, 0, _ => r
  | _, _, .cons _ t, j + 1, h1 => by
    have q := RhL.at_ t j (Nat.lt_of_succ_lt_succ h1)
    simpa [pairEq] using q
mutual
theorem Rh.uniq {h : Heap} : ∀ (d e : PyData) (v : Value), d.canLay0 = true → Rh h v d → Rh h v e → d = e
  | .none, _, _, _, r, q => by cases r; cases q; rfl
  | .bool _, _, _, _, r, q => by cases r; cases q; rfl
  | .int _, _, _, _, r, q => by cases r; cases q; rfl
  | .str _, _, _, _, r, q => by cases r; cases q; rfl
  | .list xs, _, _, c, r, q => by
    cases r with
    | lst h1 t =>
      cases q with
      | lst h2 u =>
        obtain ⟨o, a1, a2, n, a3⟩ := h1
        obtain ⟨o', b1, b2, n', b3⟩ := h2
        rw [a1] at b1
        cases b1
        rw [a3] at b3
        cases b3
        rw [RhL.uniq xs _ _ c t u]
      | tup h2 u =>
        obtain ⟨o, a1, a2, n, a3⟩ := h1
        obtain ⟨o', b1, b2, n', b3⟩ := h2
        rw [a1] at b1
        cases b1
        rw [a2] at b2
        exact absurd b2 (by simp)
      | dic h2 => exact absurd rfl (ne_dict_list h2 h1)
  | .tuple xs, _, _, c, r, q => by
    cases r with
    | tup h1 t =>
      cases q with
      | tup h2 u =>
        obtain ⟨o, a1, a2, n, a3⟩ := h1
        obtain ⟨o', b1, b2, n', b3⟩ := h2
        rw [a1] at b1
        cases b1
        rw [a3] at b3
        cases b3
        rw [RhL.uniq xs _ _ c t u]
      | lst h2 u =>
        obtain ⟨o, a1, a2, n, a3⟩ := h1
        obtain ⟨o', b1, b2, n', b3⟩ := h2
        rw [a1] at b1
        cases b1
        rw [a2] at b2
        exact absurd b2 (by simp)
      | dic h2 => exact absurd rfl (ne_dict_tuple h2 h1)
  | .dict _, _, _, c, _, _ => nomatch c
theorem RhL.uniq {h : Heap} : ∀ (ds es : List PyData) (vs : List Value), PyData.canLayAll0 ds = true → RhL h vs ds → RhL h vs es → ds = es
  | [], _, _, _, r, q => by cases r; cases q; rfl
  | d :: ds, _, _, c, r, q => by
    have c' : d.canLay0 = true ∧ PyData.canLayAll0 ds = true := by simpa [PyData.canLayAll0] using c
    cases r with
    | cons r1 r2 =>
      cases q with
      | cons q1 q2 => rw [Rh.uniq d _ _ c'.1 r1 q1, RhL.uniq ds _ _ c'.2 r2 q2]
end
theorem lay_item : ∀ {ds : List PyData} {n : Nat}, PyData.canLayAll0 ds = true → PyData.depthAll ds ≤ n → ∀ j, (ds.getD j .none).canLay0 = true ∧ (ds.getD j .none).depth ≤ n
  | [], n, _, _, j => ⟨rfl, Nat.zero_le _⟩
  | d :: ds, n, c, h, j => by
    have c' : d.canLay0 = true ∧ PyData.canLayAll0 ds = true := by simpa [PyData.canLayAll0] using c
    rw [PyData.depthAll] at h
    cases j with
    | zero => exact ⟨c'.1, show d.depth ≤ n by omega⟩
    | succ j => exact lay_item (ds := ds) (n := n) c'.2 (by omega) j
/-- one of the two holds no dict and is not deeper than n -/
def Half (n : Nat) (d e : PyData) : Prop := (d.canLay0 = true ∧ d.depth ≤ n) ∨ (e.canLay0 = true ∧ e.depth ≤ n)
section
variable {s : Shared}
theorem half_dict {n : Nat} {ps : List (PyData × PyData)} {e : PyData} (c : Half n (.dict ps) e) : e.canLay0 = true := by
  rcases c with c | c
  · exact nomatch c.1
  · exact c.1
theorem half_dict' {n : Nat} {ps : List (PyData × PyData)} {e : PyData} (c : Half n e (.dict ps)) : e.canLay0 = true := by
  rcases c with c | c
  · exact c.1
  · exact nomatch c.1
theorem eq_half : ∀ (n : Nat) (A : Around) (d e : PyData) (x y : Value), A.units + n < cLine → Half n d e → Rh s.heap x d → Rh s.heap y e → EqAt A s x y (PyData.eqv d e) := by
  intro n
  induction n with
  | zero =>
    intro A d e x y hu c r q
    have hu : A.units < cLine := hu
    cases r with
    | non => cases q with
      | non => exact EqAt.same _
      | bl b => exact EqAt.none_bool b
      | int i t => exact EqAt.none_int i t
      | str z t => exact EqAt.none_str z t
      | lst h _ => exact EqAt.none_list h hu
      | tup h _ => exact EqAt.none_tuple h hu
      | dic h => exact eq_none_dict h hu
    | bl b => cases q with
      | non => exact EqAt.bool_none b
      | bl b' => exact EqAt.bool_bool b b'
      | int i t => exact EqAt.bool_int b i t
      | str z t => exact EqAt.bool_str b z t
      | lst h _ => exact EqAt.bool_list b h hu
      | tup h _ => exact EqAt.bool_tuple b h hu
      | dic h => exact eq_bool_dict b h hu
    | int i t => cases q with
      | non => exact EqAt.int_none i t
      | bl b' => exact EqAt.int_bool i t b'
      | int i' t' => exact EqAt.int_int i t i' t'
      | str z t' => exact EqAt.int_str i t z t'
      | lst h _ => exact EqAt.int_list i t h hu
      | tup h _ => exact EqAt.int_tuple i t h hu
      | dic h => exact eq_int_dict i t h hu
    | str z t => cases q with
      | non => exact EqAt.str_none z t
      | bl b' => exact EqAt.str_bool z t b'
      | int i' t' => exact EqAt.str_int z t i' t'
      | str z' t' => exact EqAt.str_str z t z' t'
      | lst h _ => exact EqAt.str_list z t h hu
      | tup h _ => exact EqAt.str_tuple z t h hu
      | dic h => exact eq_str_dict z t h hu
    | lst h1 t1 => cases q with
      | non => exact EqAt.list_none h1 hu
      | bl b' => exact EqAt.list_bool b' h1 hu
      | int i' t' => exact EqAt.list_int i' t' h1 hu
      | str z' t' => exact EqAt.list_str z' t' h1 hu
      | lst h _ => exact absurd c (by unfold Half; simp [PyData.depth])
      | tup h _ => exact EqAt.list_tuple h1 h hu
      | dic h => exact .of_refs (ne_dict_list h h1).symm (rc_list_dict h h1 hu)
    | tup h1 t1 => cases q with
      | non => exact EqAt.tuple_none h1 hu
      | bl b' => exact EqAt.tuple_bool b' h1 hu
      | int i' t' => exact EqAt.tuple_int i' t' h1 hu
      | str z' t' => exact EqAt.tuple_str z' t' h1 hu
      | lst h _ => exact EqAt.tuple_list h1 h hu
      | tup h _ => exact absurd c (by unfold Half; simp [PyData.depth])
      | dic h => exact .of_refs (ne_dict_tuple h h1).symm (rc_tuple_dict h h1 hu)
    | dic h1 => cases q with
      | non => exact eq_dict_none h1 hu
      | bl b' => exact eq_dict_bool b' h1 hu
      | int i' t' => exact eq_dict_int i' t' h1 hu
      | str z' t' => exact eq_dict_str z' t' h1 hu
      | lst h _ => exact .of_refs (ne_dict_list h1 h) (rc_dict_list h1 h hu)
      | tup h _ => exact .of_refs (ne_dict_tuple h1 h) (rc_dict_tuple h1 h hu)
      | dic h => exact nomatch half_dict c
  | succ n ih =>
    intro A d e x y hu0 c r q
    have hu : A.units < cLine := by omega
    have hi : A.in1.units + n < cLine := by
      show A.units + 1 + n < cLine
      omega
    cases r with
    | non => cases q with
      | non => exact EqAt.same _
      | bl b => exact EqAt.none_bool b
      | int i t => exact EqAt.none_int i t
      | str z t => exact EqAt.none_str z t
      | lst h _ => exact EqAt.none_list h hu
      | tup h _ => exact EqAt.none_tuple h hu
      | dic h => exact eq_none_dict h hu
    | bl b => cases q with
      | non => exact EqAt.bool_none b
      | bl b' => exact EqAt.bool_bool b b'
      | int i t => exact EqAt.bool_int b i t
      | str z t => exact EqAt.bool_str b z t
      | lst h _ => exact EqAt.bool_list b h hu
      | tup h _ => exact EqAt.bool_tuple b h hu
      | dic h => exact eq_bool_dict b h hu
    | int i t => cases q with
      | non => exact EqAt.int_none i t
      | bl b' => exact EqAt.int_bool i t b'
      | int i' t' => exact EqAt.int_int i t i' t'
      | str z t' => exact EqAt.int_str i t z t'
      | lst h _ => exact EqAt.int_list i t h hu
      | tup h _ => exact EqAt.int_tuple i t h hu
      | dic h => exact eq_int_dict i t h hu
    | str z t => cases q with
      | non => exact EqAt.str_none z t
      | bl b' => exact EqAt.str_bool z t b'
      | int i' t' => exact EqAt.str_int z t i' t'
      | str z' t' => exact EqAt.str_str z t z' t'
      | lst h _ => exact EqAt.str_list z t h hu
      | tup h _ => exact EqAt.str_tuple z t h hu
      | dic h => exact eq_str_dict z t h hu
    | dic h1 => cases q with
      | non => exact eq_dict_none h1 hu
      | bl b' => exact eq_dict_bool b' h1 hu
      | int i' t' => exact eq_dict_int i' t' h1 hu
      | str z' t' => exact eq_dict_str z' t' h1 hu
      | lst h _ => exact .of_refs (ne_dict_list h1 h) (rc_dict_list h1 h hu)
      | tup h _ => exact .of_refs (ne_dict_tuple h1 h) (rc_dict_tuple h1 h hu)
      | dic h => exact nomatch half_dict c
    | @lst a vs xs h1 t1 => cases q with
      | non => exact EqAt.list_none h1 hu
      | bl b' => exact EqAt.list_bool b' h1 hu
      | int i' t' => exact EqAt.list_int i' t' h1 hu
      | str z' t' => exact EqAt.list_str z' t' h1 hu
      | tup h _ => exact EqAt.list_tuple h1 h hu
      | dic h => exact .of_refs (ne_dict_list h h1).symm (rc_list_dict h h1 hu)
      | @lst b ws ys h2 t2 =>
        show EqAt A s _ _ (PyData.eqvAll xs ys)
        by_cases ab : a = b
        · subst ab
          have key : PyData.list xs = PyData.list ys ∧ PyData.canLayAll0 xs = true := by
            rcases c with c | c
            · exact ⟨Rh.uniq _ _ _ c.1 (.lst h1 t1) (.lst h2 t2), c.1⟩
            · have e := Rh.uniq _ _ _ c.1 (.lst h2 t2) (.lst h1 t1)
              exact ⟨e.symm, by rw [e] at c; exact c.1⟩
          obtain ⟨e, cx⟩ := key
          cases e
          rw [eqvAll_refl xs cx]
          exact EqAt.same _
        · have n1 := t1.length
          have n2 := t2.length
          simp only [Array.length_toList] at n1 n2
          by_cases sz : vs.size = ws.size
          · rw [← eqvAll_same_length (by omega : xs.length = ys.length), ← n1]
            refine .of_refs ab (RcAt.lists h1 h2 sz hu fun j j1 j2 => ?_)
            have r1 := t1.at_ j (by simpa using j1)
            have r2 := t2.at_ j (by simpa using j2)
            have q := ih A.in1 _ _ _ _ hi (c.imp (fun c => lay_item c.1 (by have := c.2; rw [PyData.depth] at this; omega) j) fun c => lay_item c.1 (by have := c.2; rw [PyData.depth] at this; omega) j) r1 r2
            simpa [pairEq] using q
          · rw [eqvAll_other_length (by omega : xs.length ≠ ys.length)]
            exact .of_refs ab (RcAt.lists_lengths h1 h2 (by simpa using sz) hu)
    | @tup a vs xs h1 t1 => cases q with
      | non => exact EqAt.tuple_none h1 hu
      | bl b' => exact EqAt.tuple_bool b' h1 hu
      | int i' t' => exact EqAt.tuple_int i' t' h1 hu
      | str z' t' => exact EqAt.tuple_str z' t' h1 hu
      | lst h _ => exact EqAt.tuple_list h1 h hu
      | dic h => exact .of_refs (ne_dict_tuple h h1).symm (rc_tuple_dict h h1 hu)
      | @tup b ws ys h2 t2 =>
        show EqAt A s _ _ (PyData.eqvAll xs ys)
        by_cases ab : a = b
        · subst ab
          have key : PyData.tuple xs = PyData.tuple ys ∧ PyData.canLayAll0 xs = true := by
            rcases c with c | c
            · exact ⟨Rh.uniq _ _ _ c.1 (.tup h1 t1) (.tup h2 t2), c.1⟩
            · have e := Rh.uniq _ _ _ c.1 (.tup h2 t2) (.tup h1 t1)
              exact ⟨e.symm, by rw [e] at c; exact c.1⟩
          obtain ⟨e, cx⟩ := key
          cases e
          rw [eqvAll_refl xs cx]
          exact EqAt.same _
        · have n1 := t1.length
          have n2 := t2.length
          simp only [Array.length_toList] at n1 n2
          rw [← eqvAll_eq xs ys, ← n1, ← n2]
          refine .of_refs ab (RcAt.tuples h1 h2 hu fun j j1 j2 => ?_)
          have r1 := t1.at_ j (by simpa using j1)
          have r2 := t2.at_ j (by simpa using j2)
          have q := ih A.in1 _ _ _ _ hi (c.imp (fun c => lay_item c.1 (by have := c.2; rw [PyData.depth] at this; omega) j) fun c => lay_item c.1 (by have := c.2; rw [PyData.depth] at this; omega) j) r1 r2
          simpa [pairEq] using q
/-- == of the two, as a whole -/
theorem rc_half {n : Nat} {A : Around} {d e : PyData} {x y : Value} (hu0 : A.units + n < cLine) (c : Half n d e) (r : Rh s.heap x d) (q : Rh s.heap y e) : RcAt A s x y (PyData.eqv d e) := by
  have hu : A.units < cLine := by omega
  cases r with
  | non => cases q with
    | non => exact RcAt.none_none
    | bl b => exact RcAt.none_bool b
    | int i t => exact RcAt.none_int i t
    | str z t => exact RcAt.none_str z t
    | lst h _ => exact RcAt.none_list h hu
    | tup h _ => exact RcAt.none_tuple h hu
    | dic h => exact rc_none_dict h hu
  | bl b => cases q with
    | non => exact RcAt.bool_none b
    | bl b' => exact RcAt.bool_bool b b'
    | int i t => exact RcAt.bool_int b i t
    | str z t => exact RcAt.bool_str b z t
    | lst h _ => exact RcAt.bool_list b h hu
    | tup h _ => exact RcAt.bool_tuple b h hu
    | dic h => exact rc_bool_dict b h hu
  | int i t => cases q with
    | non => exact RcAt.int_none i t
    | bl b' => exact RcAt.int_bool i t b'
    | int i' t' => exact RcAt.int_int i t i' t'
    | str z t' => exact RcAt.int_str i t z t'
    | lst h _ => exact RcAt.int_list i t h hu
    | tup h _ => exact RcAt.int_tuple i t h hu
    | dic h => exact rc_int_dict i t h hu
  | str z t => cases q with
    | non => exact RcAt.str_none z t
    | bl b' => exact RcAt.str_bool z t b'
    | int i' t' => exact RcAt.str_int z t i' t'
    | str z' t' => exact RcAt.str_str z t z' t'
    | lst h _ => exact RcAt.str_list z t h hu
    | tup h _ => exact RcAt.str_tuple z t h hu
    | dic h => exact rc_str_dict z t h hu
  | dic h1 => cases q with
    | non => exact rc_dict_none h1 hu
    | bl b' => exact rc_dict_bool b' h1 hu
    | int i' t' => exact rc_dict_int i' t' h1 hu
    | str z' t' => exact rc_dict_str z' t' h1 hu
    | lst h _ => exact rc_dict_list h1 h hu
    | tup h _ => exact rc_dict_tuple h1 h hu
    | dic h => exact nomatch half_dict c
  | @lst a vs xs h1 t1 => cases q with
    | non => exact RcAt.list_none h1 hu
    | bl b' => exact RcAt.list_bool b' h1 hu
    | int i' t' => exact RcAt.list_int i' t' h1 hu
    | str z' t' => exact RcAt.list_str z' t' h1 hu
    | tup h _ => exact RcAt.list_tuple h1 h hu
    | dic h => exact rc_list_dict h h1 hu
    | @lst b ws ys h2 t2 =>
      show RcAt A s _ _ (PyData.eqvAll xs ys)
      have n1 := t1.length
      have n2 := t2.length
      simp only [Array.length_toList] at n1 n2
      by_cases sz : vs.size = ws.size
      · rw [← eqvAll_same_length (by omega : xs.length = ys.length), ← n1]
        refine RcAt.lists h1 h2 sz hu fun j j1 j2 => ?_
        have r1 := t1.at_ j (by simpa using j1)
        have r2 := t2.at_ j (by simpa using j2)
        have q := eq_half (n - 1) A.in1 _ _ _ _ (by
          show A.units + 1 + (n - 1) < cLine
          have : 1 ≤ n := by
            rcases c with c | c
            · have := c.2; rw [PyData.depth] at this; omega
            · have := c.2; rw [PyData.depth] at this; omega
          omega) (c.imp (fun c => lay_item c.1 (by have := c.2; rw [PyData.depth] at this; omega) j) fun c => lay_item c.1 (by have := c.2; rw [PyData.depth] at this; omega) j) r1 r2
        simpa [pairEq] using q
      · rw [eqvAll_other_length (by omega : xs.length ≠ ys.length)]
        exact RcAt.lists_lengths h1 h2 (by simpa using sz) hu
  | @tup a vs xs h1 t1 => cases q with
    | non => exact RcAt.tuple_none h1 hu
    | bl b' => exact RcAt.tuple_bool b' h1 hu
    | int i' t' => exact RcAt.tuple_int i' t' h1 hu
    | str z' t' => exact RcAt.tuple_str z' t' h1 hu
    | lst h _ => exact RcAt.tuple_list h1 h hu
    | dic h => exact rc_tuple_dict h h1 hu
    | @tup b ws ys h2 t2 =>
      show RcAt A s _ _ (PyData.eqvAll xs ys)
      have n1 := t1.length
      have n2 := t2.length
      simp only [Array.length_toList] at n1 n2
      rw [← eqvAll_eq xs ys, ← n1, ← n2]
      refine RcAt.tuples h1 h2 hu fun j j1 j2 => ?_
      have r1 := t1.at_ j (by simpa using j1)
      have r2 := t2.at_ j (by simpa using j2)
      have q := eq_half (n - 1) A.in1 _ _ _ _ (by
        show A.units + 1 + (n - 1) < cLine
        have : 1 ≤ n := by
          rcases c with c | c
          · have := c.2; rw [PyData.depth] at this; omega
          · have := c.2; rw [PyData.depth] at this; omega
        omega) (c.imp (fun c => lay_item c.1 (by have := c.2; rw [PyData.depth] at this; omega) j) fun c => lay_item c.1 (by have := c.2; rw [PyData.depth] at this; omega) j) r1 r2
      simpa [pairEq] using q
/-- != of anything and a text -/
theorem ne_any_str {A : Around} {d : PyData} {x : Value} {z : Str} {t : Tok} (hu : A.units < cLine) (r : Rh s.heap x d) : RcNeAt A s x (.str z t) (!PyData.eqv d (.str z)) := by
  cases r with
  | non => exact RcNeAt.none_str z t
  | bl b => exact RcNeAt.bool_str b z t
  | int i u => exact RcNeAt.int_str i u z t
  | str w u => exact RcNeAt.str_str w u z t
  | lst h _ => exact RcNeAt.list_str z t h hu
  | tup h _ => exact RcNeAt.tuple_str z t h hu
  | dic h => exact ne_dict_str z t h hu
end
section
variable {X : Cx} {pins : List (Addr × Obj)} {σ : L2.St} {H : Hp} {s : Shared} {L : List Addr}
mutual
theorem rh_of (I : Inv X pins σ H s) : ∀ {v : V} {d : PyData} {u : Value}, Rp X.K L H v d → RelV v u → Rh s.heap u d
  | _, _, _, .non, r => by cases r; exact .non
  | _, _, _, .bl b, r => by cases r; exact .bl b
  | _, _, _, .int i, r => by obtain ⟨t, rfl⟩ := r; exact .int i t
  | _, _, _, .str x, r => by obtain ⟨t, rfl⟩ := r; exact .str x t
  | _, _, _, .lst h t, r => by
    cases r
    obtain ⟨its, rv, p, _⟩ := I.list h.seq
    exact .lst p.isList (by simpa using rhL_of I t rv)
  | _, _, _, .tup h t, r => by
    cases r
    obtain ⟨its, rv, p, _⟩ := I.tuple h.seq
    exact .tup (show s.heap.IsTuple _ its.toArray from p) (by simpa using rhL_of I t rv)
  | _, _, _, .dic h _ _, r => by
    cases r
    obtain ⟨_, _, vs, _, o, es, n, h1, ⟨h2, _, _⟩, h4, _⟩ := dk_rd I.hok h
    refine .dic ?_
    obtain ⟨c, dd, dt, sl⟩ := o
    dsimp only at h2 h4
    subst h2 h4
    exact ⟨dd, es, n, sl, h1⟩
theorem rhL_of (I : Inv X pins σ H s) : ∀ {vs : List V} {ds : List PyData} {us : List Value}, RpL X.K L H vs ds → Vals vs us → RhL s.heap us ds
  | _, _, _, .nil, r => by cases r; exact .nil
  | _, _, _, .cons a b, r => by
    cases r with
    | cons r1 r2 => exact .cons (rh_of I a r1) (rhL_of I b r2)
end
end
end MV
set_option Elab.async false
set_option linter.all false
set_option maxRecDepth 100000
/-! Readings by mirrors: operators, subscripts, slices. -/
namespace MV
open PySem PySem.Spec PyProof.Rows L2
section
variable {X : Cx} {K : Frg} {a b : Expr} {fa fb : Sx} {pos : Pos} {A A' A2 : Wd} {H H' H2 : Hp} {S S' : Sto} {Q : VK} {ρ : Envi} {σ : L2.St} {D : Ends}
/-! ### views -/
def asL (S : Sto) : Val → Option (List PyData)
  | .d (.list ds) => some ds
  | .c n => match S[n]? with
    | some (.lst ds) => some ds
    | _ => none
  | _ => none
theorem asL_ok {x : V} {v : Val} {ds : List PyData} (w : Wf K A S H) (r : Rv K A H x v) (h : asL S v = some ds) : ∃ a xs, x = .ref a ∧ H a = some (.lst xs) ∧ RpL K A.V H xs ds := by
  cases v with
  | f k => cases h
  | g cs i => cases h
  | x => cases h
  | t its => cases h
  | o nm => cases h
  | z es => cases h
  | d y =>
    cases y with
    | list es =>
      cases h
      have r' : Rp K A.V H x (.list ds) := r
      cases r' with | lst l q => exact ⟨_, _, rfl, l.1, q⟩
    | _ => cases h
  | c n =>
    have h : (match S[n]? with
      | some (.lst es) => some es
      | _ => none) = some ds := h
    split at h
    · rename_i es q
      cases h
      obtain ⟨a, h1, rfl⟩ := r
      obtain ⟨xs, h2, h3⟩ := w.ok n a _ h1 q
      exact ⟨a, xs, rfl, h2, h3⟩
    · cases h
/-- as a datum -/
def asD (S : Sto) : Val → Option PyData
  | .d x => some x
  | .z ds => some (.list ds)
  | .c n => match S[n]? with
    | some (.lst ds) => some (.list ds)
    | _ => none
  | _ => none
theorem asD_dp {x : V} {v : Val} {y : PyData} (w : Wf K A S H) (r : Rv K A H x v) (h : asD S v = some y) (c : y.canLay0 = true) : Dp K H x y := by
  cases v with
  | f k => cases h
  | g cs i => cases h
  | x => cases h
  | t its => cases h
  | o nm => cases h
  | d z => cases h; exact Rp.dp _ _ c r
  | z ds =>
    cases h
    obtain ⟨a, xs, rfl, h1, t⟩ := r
    exact .lst (h1.elim (fun z => .inl z.1) klst_seq) (RpL.dp _ _ (by simpa [PyData.canLay0] using c) t)
  | c n =>
    have h : (match S[n]? with
      | some (.lst es) => some (.list es)
      | _ => none) = some y := h
    split at h
    · rename_i es q
      cases h
      obtain ⟨a, h1, rfl⟩ := r
      obtain ⟨xs, h2, h3⟩ := w.ok n a _ h1 q
      exact .lst (.inl (.inl h2)) (RpL.dp _ _ (by simpa [PyData.canLay0] using c) h3)
    · cases h

/-! ### whole numbers -/
def gInt (C : Int → Int → Bool) (g : Int → Int → PyData) : Val → Val → Sto → Res Val
  | .d (.int i), .d (.int j), S => if C i j = true then .ok (.d (g i j)) S else .no
  | _, _, _ => .no
theorem Rp.int_inv {L : List Addr} {x : V} {i : Int} (r : Rp K L H x (.int i)) : x = .int i := by cases r; rfl
theorem Rp.str_inv {L : List Addr} {x : V} {i : Str} (r : Rp K L H x (.str i)) : x = .str i := by cases r; rfl
theorem Rp.bl_inv {L : List Addr} {x : V} {i : Bool} (r : Rp K L H x (.bool i)) : x = .bl i := by cases r; rfl
theorem oInt {f : Value → Value → Sem Value} {C : Int → Int → Prop} {Cb : Int → Int → Bool} {g : Int → Int → V} {gd : Int → Int → PyData} (h : OpR X f (rI C g)) (hC : ∀ i j, Cb i j = true → C i j) (hg : ∀ i j L H, Rp X.K L H (g i j) (gd i j)) : ORul X f (gInt Cb gd) := by
  intro pins s σ A S H x y u u' v w Q I wf rv rw ru ru' p
  unfold gInt at p
  split at p
  · split at p
    · rename_i c
      exact h pins s σ H x y u u' Q I ru ru' ⟨_, _, Rp.int_inv rv, Rp.int_inv rw, hC _ _ c, p _ H .refl wf (hg _ _ _ _)⟩
    · exact p.elim
  · exact p.elim
theorem oInt0 {f : Value → Value → Sem Value} {g : Int → Int → V} {gd : Int → Int → PyData} (h : OpR X f (rI0 g)) (hg : ∀ i j L H, Rp X.K L H (g i j) (gd i j)) : ORul X f (gInt (fun _ _ => true) gd) := by
  intro pins s σ A S H x y u u' v w Q I wf rv rw ru ru' p
  unfold gInt at p
  split at p
  · exact h pins s σ H x y u u' Q I ru ru' ⟨_, _, Rp.int_inv rv, Rp.int_inv rw, p _ H .refl wf (hg _ _ _ _)⟩
  · exact p.elim
def gSub := gInt (fun _ _ => true) fun i j => .int (i - j)
theorem oSub : ORul X (binaryOp .Sub) gSub := oInt0 op_sub fun _ _ _ _ => .int _
def gDiv := gInt (fun _ j => decide (0 < j ∧ j.natAbs.log2 < 9000)) fun i j => .int (i / j)
theorem oDiv : ORul X (binaryOp .FloorDiv) gDiv := oInt op_fdivW (fun _ j h => (show 0 < j ∧ j.natAbs.log2 < 9000 from of_decide_eq_true h)) fun _ _ _ _ => .int _
def gMod := gInt (fun _ j => decide (0 < j)) fun i j => .int (i % j)
theorem oMod : ORul X (binaryOp .Mod) gMod := oInt op_mod (fun _ _ h => of_decide_eq_true h) fun _ _ _ _ => .int _
theorem op_powX : OpR X (binaryOp .Pow) (rI (fun i j => 0 ≤ j ∧ (Builtin.Int.intBits i : Int) * j ≤ 2 ^ 27) fun i j => .int (i ^ j.toNat)) := opI fun _ _ _ _ _ _ _ hc q => pow_int hc.1 hc.2 q
def gPow := gInt (fun i j => decide (0 ≤ j ∧ (Builtin.Int.intBits i : Int) * j ≤ 2 ^ 27)) fun i j => .int (i ^ j.toNat)
theorem oPow : ORul X (binaryOp .Pow) gPow := oInt op_powX (fun _ _ h => of_decide_eq_true h) fun _ _ _ _ => .int _
def gShl := gInt (fun i j => decide (0 ≤ j ∧ j ≤ 1000000 ∧ i.natAbs < 2 ^ 64)) fun i j => .int (i * 2 ^ j.toNat)
theorem oShl : ORul X (binaryOp .LShift) gShl := oInt op_shl (fun i j h => (show 0 ≤ j ∧ j ≤ 1000000 ∧ i.natAbs < 2 ^ 64 from of_decide_eq_true h)) fun _ _ _ _ => .int _
def gShr := gInt (fun _ j => decide (0 ≤ j)) fun i j => .int (i / 2 ^ j.toNat)
theorem oShr : ORul X (binaryOp .RShift) gShr := oInt op_shr (fun _ _ h => of_decide_eq_true h) fun _ _ _ _ => .int _
def gAnd := gInt (fun _ _ => true) fun i j => .int (Builtin.bitAnd i j)
theorem oAnd : ORul X (binaryOp .BitAnd) gAnd := oInt0 op_and fun _ _ _ _ => .int _
def gOr := gInt (fun _ _ => true) fun i j => .int (Builtin.bitOr i j)
theorem oOr : ORul X (binaryOp .BitOr) gOr := oInt0 op_or fun _ _ _ _ => .int _
def gXor := gInt (fun _ _ => true) fun i j => .int (Builtin.bitXor i j)
theorem oXor : ORul X (binaryOp .BitXor) gXor := oInt0 op_xor fun _ _ _ _ => .int _
def evUn (g : Int → Int) (f : Sx) : Sx := fun ρ S => (f ρ S).bind fun v S1 => match v with
  | .d (.int i) => .ok (.d (.int (g i))) S1
  | _ => .no
theorem eUn {op : UnaryOp} {g : Int → Int} (h : UnR X (unaryOp op) (rU fun i => .int (g i))) (ha : PE X a (tE X.K fa)) : PE X (.UnaryOp op a pos) (tE X.K (evUn g fa)) := PEi (pe_un h ha) fun σ H Q ⟨A, S, ρ, w, env, p⟩ =>
  at_seq (P := Post X.K A H Q) w env p (fun h => h) (fun _ _ h => h) fun v S1 x H1 e1 w1 r1 p1 => by
    split at p1
    · exact ⟨_, Rp.int_inv r1, p1 _ H1 e1 w1 (.int _)⟩
    · exact p1.elim
theorem eNeg (ha : PE X a (tE X.K fa)) : PE X (.UnaryOp .USub a pos) (tE X.K (evUn (fun i => -i) fa)) := eUn un_neg ha
theorem eInv (ha : PE X a (tE X.K fa)) : PE X (.UnaryOp .Invert a pos) (tE X.K (evUn Builtin.bitNot fa)) := eUn un_inv ha

/-! ### + and * -/
def mulOk (i j : Int) : Bool := decide (((-(2 ^ 64) < i ∧ i < 2 ^ 64) ∨ (-(2 ^ 64) < j ∧ j < 2 ^ 64)) ∨ i.natAbs.log2 + j.natAbs.log2 < 1000000)
def CMulA (i j : Int) : Prop := CMul i j ∨ CMulW i j
theorem op_mulA {X : Cx} : OpR X (binaryOp .Mult) (rI CMulA fun i j => .int (i * j)) := opI fun _ _ _ _ _ _ _ hc q => mul_int q (hc.elim CMul.ok CMulW.ok)
theorem mulOk_ok {i j : Int} (h : mulOk i j = true) : CMulA i j := (of_decide_eq_true h).imp id id
def gMul : Val → Val → Sto → Res Val
  | .d (.int i), .d (.int j), S => if mulOk i j = true then .ok (.d (.int (i * j))) S else .no
  | .d (.tuple ds), .d (.int k), S => if ds ≠ [] ∧ 2 ≤ k ∧ k ≤ 1000 ∧ ds.length ≤ 1000 then .ok (.d (.tuple (List.replicate k.toNat ds).flatten)) S else .no
  | v, .d (.int k), S => match asL S v with
    | some ds => if -(2 ^ 63) ≤ k ∧ k < 2 ^ 63 ∧ ds.length * k.toNat ≤ sizeLine then .ok (.f (.lst (List.replicate k.toNat ds).flatten)) S else .no
    | none => .no
  | _, _, _ => .no
theorem RpL.rep {L : List Addr} {xs : List V} {ds : List PyData} (r : RpL K L H xs ds) : ∀ k : Nat, RpL K L H (List.replicate k xs).flatten (List.replicate k ds).flatten
  | 0 => .nil
  | k + 1 => by
    rw [List.replicate_succ, List.replicate_succ, List.flatten_cons, List.flatten_cons]
    exact r.append (RpL.rep r k)
theorem Post.fresh {ds : List PyData} {xs : List V} {p : Addr} (h : Post K A H Q (.ok (.f (.lst ds)) S)) (w : Wf K A S H) (hp : H p = none) (r : RpL K A.V H xs ds) : Q (.ref p) (L2.upd H p (.lst xs)) := h.lst .refl w hp r
theorem oMul : ORul X (binaryOp .Mult) gMul := by
  intro pins s σ A S H x y u u' v w Q I wf rv rw ru ru' p
  unfold gMul at p
  split at p
  · split at p
    · rename_i c
      exact op_mulA pins s σ H x y u u' Q I ru ru' ⟨_, _, Rp.int_inv rv, Rp.int_inv rw, mulOk_ok c, p _ H .refl wf (.int _)⟩
    · exact p.elim
  · split at p
    · rename_i ds _ c
      have rv' : Rp X.K A.V H x (.tuple ds) := rv
      cases rv' with | tup l q1 =>
      refine op_repC pins s σ H _ y u u' Q I ru ru' ⟨_, _, _, rfl, Rp.int_inv rw, l.seq, fun e => c.1 ?_, c.2.1, c.2.2.1, by rw [q1.length]; exact c.2.2.2, fun q its hq => Post.tup p .refl wf hq (q1.rep _)⟩
      subst e
      cases q1
      rfl
    · exact p.elim
  · split at p
    · rename_i ds hds
      split at p
      · rename_i c
        obtain ⟨a, xs, e1, h1, h2⟩ := asL_ok wf rv hds
        refine op_rep pins s σ H x y u u' Q I ru ru' ⟨a, _, xs, e1, Rp.int_inv rw, h1, c.1, c.2.1, by rw [h2.length]; exact c.2.2, fun q hq => ?_⟩
        exact p.fresh wf hq (h2.rep _)
      · exact p.elim
    · exact p.elim
  · exact p.elim
def gAdd : Val → Val → Sto → Res Val
  | .d (.int i), .d (.int j), S => .ok (.d (.int (i + j))) S
  | .d (.str i), .d (.str j), S => if i.length + j.length ≤ sizeLine then .ok (.d (.str (i ++ j))) S else .no
  | .d (.tuple i), .d (.tuple j), S => if i.length + j.length ≤ sizeLine then .ok (.d (.tuple (i ++ j))) S else .no
  | v, w, S => match asL S v, asL S w with
    | some i, some j => if i.length + j.length ≤ sizeLine then .ok (.f (.lst (i ++ j))) S else .no
    | _, _ => .no
theorem oAdd : ORul X (binaryOp .Add) gAdd := by
  intro pins s σ A S H x y u u' v w Q I wf rv rw ru ru' p
  unfold gAdd at p
  split at p
  · exact op_add pins s σ H x y u u' Q I ru ru' ⟨_, _, Rp.int_inv rv, Rp.int_inv rw, p _ H .refl wf (.int _)⟩
  · split at p
    · rename_i c
      exact op_add_str pins s σ H x y u u' Q I ru ru' ⟨_, _, Rp.str_inv rv, Rp.str_inv rw, c, p _ H .refl wf (.str _)⟩
    · exact p.elim
  · split at p
    · rename_i c
      have rv' : Rp X.K A.V H x (.tuple _) := rv
      have rw' : Rp X.K A.V H y (.tuple _) := rw
      cases rv' with | tup l1 q1 => cases rw' with | tup l2 q2 =>
        refine op_catC pins s σ H _ _ u u' Q I ru ru' ⟨_, _, _, _, rfl, rfl, l1.seq, l2.seq, by rw [q1.length, q2.length]; exact c, fun e => ?_, fun e e' => ?_, fun e e' q its hq => ?_⟩
        · subst e
          cases q1
          exact p _ H .refl wf rw
        · subst e'
          cases q2
          rw [List.append_nil] at p
          exact p _ H .refl wf rv
        · exact Post.tup p .refl wf hq (q1.append q2)
    · exact p.elim
  · split at p
    · rename_i i j h1 h2
      split at p
      · rename_i c
        obtain ⟨a, xs, e1, g1, r1⟩ := asL_ok wf rv h1
        obtain ⟨b, ys, e2, g2, r2⟩ := asL_ok wf rw h2
        exact op_cat pins s σ H x y u u' Q I ru ru' ⟨a, b, xs, ys, e1, e2, g1, g2, by rw [r1.length, r2.length]; exact c, fun q hq => p.fresh wf hq (r1.append r2)⟩
      · exact p.elim
    · exact p.elim

/-! ### comparisons -/
def nn : PyData → Bool
  | .none => false
  | _ => true
def gCmp (fi : Int → Int → Bool) (fd : PyData → PyData → Bool) : Val → Val → Sto → Res Val := fun v w S => match v, w with
  | .d (.int i), .d (.int j) => .ok (.d (.bool (fi i j))) S
  | v, w => match asD S v, asD S w with
    | some x, some y => if PySem.W.alike x y = true ∧ SeqAt.shaped x = true ∧ SeqAt.shaped y = true ∧ nn x = true then .ok (.d (.bool (fd x y))) S else .no
    | _, _ => .no
theorem oCmp {f : Value → Value → Sem Value} {fi : Int → Int → Bool} {fd : PyData → PyData → Bool} (hu : X.A.units + 100 < cLine) (h1 : OpR X f (rI0 fun i j => .bl (fi i j)))
    (h2 : ∀ (s : Shared) (a b : Value) (x y : PyData) (as bs : List Addr) (Q : Value → Shared → Prop), Reads s.heap a x as → Reads s.heap b y bs → PySem.W.alike x y = true → x ≠ .none → X.A.units + min x.depth y.depth < cLine → Q (.bool (fd x y)) s → wpAny (model X.prog X.w) X.A (f a b) Q X.xe s) : ORul X f (gCmp fi fd) := by
  intro pins s σ A S H x y u u' v w Q I wf rv rw ru ru' p
  unfold gCmp at p
  split at p
  · exact h1 pins s σ H x y u u' Q I ru ru' ⟨_, _, Rp.int_inv rv, Rp.int_inv rw, p _ H .refl wf (.bl _)⟩
  · split at p
    · rename_i d e hd he
      split at p
      · rename_i c
        obtain ⟨c1, c2, c3, c4⟩ := c
        have l1 := SeqAt.canLay_of_shaped c2
        have l2 := SeqAt.canLay_of_shaped c3
        obtain ⟨as, ra⟩ := Dp.reads I d x u (asD_dp wf rv hd l1) ru
        obtain ⟨bs, rb⟩ := Dp.reads I e y u' (asD_dp wf rw he l2) ru'
        have h64 := SeqAt.depth_of_shaped c2
        refine h2 s u u' d e as bs _ ra rb c1 (fun z => by rw [z] at c4; cases c4) (by omega) ⟨.bl _, H, I, rfl, p _ H .refl wf (.bl _)⟩
      · exact p.elim
    · exact p.elim
def gLt := gCmp (fun i j => decide (i < j)) PySem.W.dataLt
def gLe := gCmp (fun i j => decide (i ≤ j)) fun x y => !PySem.W.dataLt y x
def gGt := gCmp (fun i j => decide (j < i)) fun x y => PySem.W.dataLt y x
def gGe := gCmp (fun i j => decide (j ≤ i)) fun x y => !PySem.W.dataLt x y
theorem oLt (hu : X.A.units + 100 < cLine) : ORul X (compareOp .Lt) gLt := oCmp hu op_lt fun _ _ _ _ _ _ _ _ r1 r2 a n h q => PySem.W.lt_data r1 r2 a n h q
theorem oLe (hu : X.A.units + 100 < cLine) : ORul X (compareOp .LtE) gLe := oCmp hu op_le fun _ _ _ _ _ _ _ _ r1 r2 a n h q => PySem.W.le_data r1 r2 a n h q
theorem oGt (hu : X.A.units + 100 < cLine) : ORul X (compareOp .Gt) gGt := oCmp hu op_gt fun _ _ _ _ _ _ _ _ r1 r2 a n h q => PySem.W.gt_data r1 r2 a n h q
theorem oGe (hu : X.A.units + 100 < cLine) : ORul X (compareOp .GtE) gGe := oCmp hu op_ge fun _ _ _ _ _ _ _ _ r1 r2 a n h q => PySem.W.ge_data r1 r2 a n h q
def gEq : Val → Val → Sto → Res Val
  | .d (.str i), .d (.str j), S => .ok (.d (.bool (decide (i = j)))) S
  | v, w, S => match asD S v, asD S w with
    | some x, some y => if SeqAt.shaped x = true ∧ SeqAt.shaped y = true then .ok (.d (.bool (PyData.eqv x y))) S else if SeqAt.shaped x = true ∨ SeqAt.shaped y = true then .ok (.d (.bool (PyData.eqv x y))) S else .no
    | _, _ => .no
def isTx : PyData → Bool
  | .str _ => true
  | _ => false
def gNe : Val → Val → Sto → Res Val
  | .d (.str i), .d (.str j), S => .ok (.d (.bool (!decide (i = j)))) S
  | v, w, S => match asD S v, asD S w with
    | some x, some y => if SeqAt.shaped x = true ∧ SeqAt.shaped y = true then .ok (.d (.bool (!PyData.eqv x y))) S else if isTx y = true then .ok (.d (.bool (!PyData.eqv x y))) S else .no
    | _, _ => .no
theorem asD_rh {pins : List (Addr × Obj)} {s : Shared} {x : V} {u : Value} {v : Val} {y : PyData} (I : Inv X pins σ H s) (w : Wf X.K A S H) (r : Rv X.K A H x v) (h : asD S v = some y) (ru : RelV x u) : Rh s.heap u y := by
  cases v with
  | d z => cases h; exact rh_of I r ru
  | c n =>
    have h : (match S[n]? with
      | some (.lst ds) => some (PyData.list ds)
      | _ => none) = some y := h
    split at h
    · rename_i es q
      cases h
      obtain ⟨a, h1, rfl⟩ := r
      obtain ⟨xs, h2, h3⟩ := w.ok n a _ h1 q
      cases ru
      obtain ⟨its, rv, p, _⟩ := I.list (SqL.of h2)
      exact .lst p.isList (by simpa using rhL_of I h3 rv)
    · cases h
  | z ds =>
    cases h
    obtain ⟨a, xs, rfl, h1, t⟩ := r
    cases ru
    have sq : SqL X.K H a xs := by
      rcases h1 with h1 | h1
      · exact .inl h1.1
      · exact klst_seq h1
    obtain ⟨its, rv, p, _⟩ := I.list sq
    exact .lst p.isList (by simpa using rhL_of I t rv)
  | _ => cases h
theorem half_shaped {x y : PyData} (h : SeqAt.shaped x = true ∨ SeqAt.shaped y = true) : Half 64 x y := h.imp (fun h => ⟨SeqAt.canLay_of_shaped h, SeqAt.depth_of_shaped h⟩) fun h => ⟨SeqAt.canLay_of_shaped h, SeqAt.depth_of_shaped h⟩
theorem oEq (hu : X.A.units + 100 < cLine) : ORul X (compareOp .Eq) gEq := by
  intro pins s σ A S H x y u u' v w Q I wf rv rw ru ru' p
  unfold gEq at p
  split at p
  · rename_i i j
    have e1 := Rp.str_inv rv
    have e2 := Rp.str_inv rw
    subst e1 e2
    refine op_eq pins s σ H _ _ u u' Q I ru ru' ⟨rfl, ?_⟩
    have e : decide (V.str i = V.str j) = decide (i = j) := by simp
    rw [e]
    exact p _ H .refl wf (.bl _)
  split at p
  · rename_i d e h1 h2
    split at p
    · rename_i c
      exact op_eqD (by omega) pins s σ H x y u u' Q I ru ru' ⟨d, e, asD_dp wf rv h1 (SeqAt.canLay_of_shaped c.1), asD_dp wf rw h2 (SeqAt.canLay_of_shaped c.2), c.1, c.2, p _ H .refl wf (.bl _)⟩
    · split at p
      · rename_i c
        exact rc_half (n := 64) (by omega) (half_shaped c) (asD_rh I wf rv h1 ru) (asD_rh I wf rw h2 ru') _ _ _ _ ⟨.bl _, H, I, rfl, p _ H .refl wf (.bl _)⟩
      · exact p.elim
  · exact p.elim
theorem oNe (hu : X.A.units + 100 < cLine) : ORul X (compareOp .NotEq) gNe := by
  intro pins s σ A S H x y u u' v w Q I wf rv rw ru ru' p
  unfold gNe at p
  split at p
  · rename_i i j
    have e1 := Rp.str_inv rv
    have e2 := Rp.str_inv rw
    subst e1 e2
    refine op_ne pins s σ H _ _ u u' Q I ru ru' ⟨rfl, ?_⟩
    have e : decide (V.str i = V.str j) = decide (i = j) := by simp
    rw [e]
    exact p _ H .refl wf (.bl _)
  split at p
  · rename_i d e h1 h2
    split at p
    · rename_i c
      exact op_neD (by omega) pins s σ H x y u u' Q I ru ru' ⟨d, e, asD_dp wf rv h1 (SeqAt.canLay_of_shaped c.1), asD_dp wf rw h2 (SeqAt.canLay_of_shaped c.2), c.1, c.2, p _ H .refl wf (.bl _)⟩
    · split at p
      · rename_i c
        cases e with
        | str z =>
          have q := asD_rh I wf rw h2 ru'
          cases q with
          | str _ t => exact ne_any_str (by omega) (asD_rh I wf rv h1 ru) _ _ _ _ ⟨.bl _, H, I, rfl, p _ H .refl wf (.bl _)⟩
        | _ => cases c
      · exact p.elim
  · exact p.elim
def kOf : PyData → Option Key
  | .int i => some (.inl i)
  | .str x => some (.inr x)
  | _ => none
/-- a dict's entry -/
def look (ps : List (PyData × PyData)) (k : Key) : Option PyData := (ps.find? fun p => decide (kOf p.1 = some k)).map (·.2)
theorem kOf_kD (k : Key) : kOf (kD k) = some k := by cases k <;> rfl
theorem look_ok {L : List Addr} {k : Key} : ∀ {kvs : List (Key × V)} {ps : List (PyData × PyData)}, RpD K L H kvs ps → (look ps k = none ∧ valV kvs k = none) ∨ ∃ d v, look ps k = some d ∧ valV kvs k = some v ∧ Rp K L H v d
  | _, _, .nil => .inl ⟨rfl, rfl⟩
  | _, _, .cons (k := j) (v := v) (kvs := kvs) (d := d) (ps := ps) r t => by
    by_cases e : j = k
    · subst e
      exact .inr ⟨d, v, by simp [look, kOf_kD], valV_pos rfl, r⟩
    · have h1 : look ((kD j, d) :: ps) k = look ps k := by simp [look, kOf_kD, e]
      have h2 : valV ((j, v) :: kvs) k = valV kvs k := valV_neg e
      rw [h1, h2]
      exact look_ok t
/-- as a dict -/
def asM (S : Sto) : Val → Option (List (PyData × PyData))
  | .d (.dict ps) => some ps
  | .c n => match S[n]? with
    | some (.dic ps) => some ps
    | _ => none
  | _ => none
theorem asM_ok {x : V} {v : Val} {ps : List (PyData × PyData)} (w : Wf K A S H) (r : Rv K A H x v) (h : asM S v = some ps) : ∃ a kvs, x = .ref a ∧ Rd H a (.dK kvs) ∧ RpD K A.V H kvs ps := by
  cases v with
  | f k => cases h
  | g cs i => cases h
  | x => cases h
  | t its => cases h
  | o nm => cases h
  | z es => cases h
  | d y =>
    cases y with
    | dict es =>
      cases h
      have r' : Rp K A.V H x (.dict ps) := r
      cases r' with | dic l n q => exact ⟨_, _, rfl, l, q⟩
    | _ => cases h
  | c n =>
    have h : (match S[n]? with
      | some (.dic es) => some es
      | _ => none) = some ps := h
    split at h
    · rename_i es q
      cases h
      obtain ⟨a, h1, rfl⟩ := r
      obtain ⟨xs, h2, h3⟩ := w.ok n a _ h1 q
      exact ⟨a, xs, rfl, .inl h2, h3⟩
    · cases h
theorem dget_rd {H : Hp} {a : Addr} {kvs : List (Key × V)} {k : Key} (e : Rd H a (.dK kvs)) : DGet H a (kV k) (valV kvs k) := .inl ⟨kvs, k, e, rfl, rfl⟩
def rowOf (S : Sto) : Val → Option (List PyData)
  | .d (.tuple ds) => some ds
  | v => match asD S v with
    | some (.list ds) => some ds
    | _ => none
def isIn (S : Sto) (v w : Val) : Option Bool := match asM S w with
  | some ps => match v with
    | .d y => match kOf y with
      | some k => some (look ps k).isSome
      | none => none
    | _ => none
  | none => match v, w with
    | .d (.str i), .d (.str j) => some (!(Builtin.Str.occurrences j i 0 j.length 1).isEmpty)
    | v, w => match asD S v, rowOf S w with
      | some d, some ds => if SeqAt.shaped d = true ∧ SeqAt.shaped (.list ds) = true then some (ds.any fun z => PyData.eqv z d) else match asL S w with
        | some es => if SeqAt.shaped (.list es) = true then some (es.any fun z => PyData.eqv z d) else none
        | none => none
      | _, _ => none
def gIn : Val → Val → Sto → Res Val := fun v w S => match isIn S v w with
  | some b => .ok (.d (.bool b)) S
  | none => .no
def gNotIn : Val → Val → Sto → Res Val := fun v w S => match isIn S v w with
  | some b => .ok (.d (.bool (!b))) S
  | none => .no
theorem shaped_tl {ds : List PyData} (h : SeqAt.shaped (.list ds) = true) : SeqAt.shaped (.tuple ds) = true := by
  unfold SeqAt.shaped at h ⊢
  simpa [PyData.canLay0, PyData.depth] using h
theorem Rp.key {L : List Addr} {x : V} {y : PyData} {k : Key} (r : Rp K L H x y) (h : kOf y = some k) : x = kV k := by
  cases y with
  | int i => cases h; exact Rp.int_inv r
  | str i => cases h; exact Rp.str_inv r
  | _ => cases h
theorem any_rh {h : Heap} {d : PyData} : ∀ {us : List Value} {es : List PyData}, RhL h us es → PyData.canLayAll0 es = true → us.any (fun y => @decide (∃ z, z.canLay0 = true ∧ Rh h y z ∧ PyData.eqv z d = true) (Classical.propDecidable _)) = es.any fun z => PyData.eqv z d
  | _, _, .nil, _ => rfl
  | _, _, .cons (v := v) (d := z) (ds := zs) r t, c => by
    have c' : z.canLay0 = true ∧ PyData.canLayAll0 zs = true := by simpa [PyData.canLayAll0] using c
    rw [List.any_cons, List.any_cons, any_rh t c'.2]
    congr 1
    rw [Bool.eq_iff_iff, @decide_eq_true_iff _ (Classical.propDecidable _)]
    exact ⟨fun ⟨z', h1, h2, h3⟩ => by rw [Rh.uniq _ _ _ c'.1 r h2]; exact h3, fun q => ⟨z, c'.1, r, q⟩⟩
theorem mem_rh {h : Heap} : ∀ {us : List Value} {es : List PyData}, RhL h us es → PyData.canLayAll0 es = true → ∀ y ∈ us, ∃ z ∈ es, z.canLay0 = true ∧ Rh h y z
  | _, _, .nil, _, y, m => by cases m
  | _, _, .cons (d := z) (ds := zs) r t, c, y, m => by
    have c' : z.canLay0 = true ∧ PyData.canLayAll0 zs = true := by simpa [PyData.canLayAll0] using c
    rcases List.mem_cons.mp m with rfl | m
    · exact ⟨z, List.mem_cons_self .., c'.1, r⟩
    · obtain ⟨z', h1, h2⟩ := mem_rh t c'.2 y m
      exact ⟨z', List.mem_cons_of_mem _ h1, h2⟩
theorem depth_mem {z : PyData} : ∀ {es : List PyData}, z ∈ es → z.depth ≤ PyData.depthAll es
  | e :: es, m => by
    rw [PyData.depthAll]
    rcases List.mem_cons.mp m with rfl | m
    · omega
    · have := depth_mem m
      omega
/-- anything in a list of plain things -/
theorem in_half (hu : X.A.units + 65 < cLine) {pins : List (Addr × Obj)} {s : Shared} {y : V} {u u' : Value} {w : Val} {d : PyData} {es : List PyData} {Q' : Value → Shared → Prop} (I : Inv X pins σ H s) (wf : Wf X.K A S H) (rx : Rh s.heap u d) (rw : Rv X.K A H y w) (ru' : RelV y u') (h : asL S w = some es)
    (hs : SeqAt.shaped (.list es) = true) (neg : Bool) (q : Q' (.bool (if neg then !(es.any fun z => PyData.eqv z d) else es.any fun z => PyData.eqv z d)) s) : wpAny (model X.prog X.w) X.A (compareOp (if neg then .NotIn else .In) u u') Q' X.xe s := by
  obtain ⟨a, xs, rfl, g1, t⟩ := asL_ok wf rw h
  cases ru'
  obtain ⟨us, r1, p1, _⟩ := I.list (SqL.of g1)
  have rl := rhL_of I t r1
  have cl : PyData.canLayAll0 es = true := SeqAt.canLay_of_shaped hs
  have dp := SeqAt.depth_of_shaped hs
  rw [PyData.depth] at dp
  have each : ∀ v, v ∈ us.toArray → SeqAt.EqAt X.A.in1 s v u (@decide (∃ z, z.canLay0 = true ∧ Rh s.heap v z ∧ PyData.eqv z d = true) (Classical.propDecidable _)) := fun v hv => by
    obtain ⟨z, h1, h2, h3⟩ := mem_rh rl cl v (by simpa using hv)
    have e : (@decide (∃ z, z.canLay0 = true ∧ Rh s.heap v z ∧ PyData.eqv z d = true) (Classical.propDecidable _)) = PyData.eqv z d := by
      rw [Bool.eq_iff_iff, @decide_eq_true_iff _ (Classical.propDecidable _)]
      exact ⟨fun ⟨z', q1, q2, q3⟩ => by rw [Rh.uniq _ _ _ h2 h3 q2]; exact q3, fun q => ⟨z, h2, h3, q⟩⟩
    rw [e]
    exact eq_half 63 _ _ _ _ _ (by show X.A.units + 1 + 63 < cLine; omega) (.inl ⟨h2, by have := depth_mem h1; omega⟩) h3 rx
  cases neg with
  | true => exact SeqAt.notIn_listAt _ p1.isList each (by rw [List.any_toArray, any_rh rl cl]; exact q)
  | false => exact SeqAt.in_listAt _ p1.isList each (by rw [List.any_toArray, any_rh rl cl]; exact q)
theorem in_core (hu : X.A.units + 65 < cLine) {pins : List (Addr × Obj)} {s : Shared} {x y : V} {u u' : Value} {v w : Val} {c : Bool} {Q' : Value → Shared → Prop} (I : Inv X pins σ H s) (wf : Wf X.K A S H) (rv : Rv X.K A H x v) (rw : Rv X.K A H y w) (ru : RelV x u) (ru' : RelV y u') (h : isIn S v w = some c)
    (neg : Bool) (q : ∀ s', Inv X pins σ H s' → Q' (.bool (if neg then !c else c)) s') : wpAny (model X.prog X.w) X.A (compareOp (if neg then .NotIn else .In) u u') Q' X.xe s := by
  unfold isIn at h
  split at h
  · rename_i ps hps
    split at h
    · rename_i d
      split at h
      · rename_i k hk
        cases h
        obtain ⟨a, kvs, e1, g1, r1⟩ := asM_ok wf rw hps
        subst e1
        cases ru'
        have e2 := Rp.key rv hk
        subst e2
        have e3 : (valV kvs k).isSome = (look ps k).isSome := by
          rcases look_ok (k := k) r1 with ⟨h1, h2⟩ | ⟨d, v, h1, h2, _⟩ <;> rw [h1, h2] <;> rfl
        have hu1 : X.A.units + 1 < cLine := by omega
        cases neg with
        | true =>
          refine d_notIn hu1 I (dget_rd g1) ru fun s' I' => ?_
          rw [e3]; exact q s' I'
        | false =>
          refine d_in hu1 I (dget_rd g1) ru fun s' I' => ?_
          rw [e3]; exact q s' I'
      · cases h
    · cases h
  · split at h
    · cases h
      have e1 := Rp.str_inv rv
      have e2 := Rp.str_inv rw
      cases neg with
      | true => exact thn (op_notin_str pins s σ H x y u u' (fun z H' => H' = H ∧ z = .bl _) I ru ru' ⟨_, _, e1, e2, rfl, rfl⟩) fun z s' ⟨zv, H', I', rz, eh, ez⟩ => by subst eh ez; cases rz; exact q s' I'
      | false => exact thn (op_in_str pins s σ H x y u u' (fun z H' => H' = H ∧ z = .bl _) I ru ru' ⟨_, _, e1, e2, rfl, rfl⟩) fun z s' ⟨zv, H', I', rz, eh, ez⟩ => by subst eh ez; cases rz; exact q s' I'
    · split at h
      · rename_i d ds hd hds
        split at h
        · rename_i c
          cases h
          obtain ⟨as, r1⟩ := Dp.reads I d x u (asD_dp wf rv hd (SeqAt.canLay_of_shaped c.1)) ru
          have st := shaped_tl c.2
          have key : (∃ as, Reads s.heap u' (.tuple ds) as) ∨ ∃ as, Reads s.heap u' (.list ds) as := by
            unfold rowOf at hds
            split at hds
            · cases hds
              exact .inl (Dp.reads I (.tuple ds) y u' (Rp.dp _ _ (SeqAt.canLay_of_shaped st) rw) ru')
            · split at hds
              · rename_i es he
                cases hds
                exact .inr (Dp.reads I (.list ds) y u' (asD_dp wf rw he (SeqAt.canLay_of_shaped c.2)) ru')
              · cases hds
          rcases key with ⟨bs, r2⟩ | ⟨bs, r2⟩
          · cases neg with
            | true => exact SeqAt.notIn_tuple_reads r2 r1 (SeqAt.canLay_of_shaped st) (SeqAt.canLay_of_shaped c.1) (room_in_shaped c.1 hu) (q s I)
            | false => exact SeqAt.in_tuple_reads r2 r1 (SeqAt.canLay_of_shaped st) (SeqAt.canLay_of_shaped c.1) (room_in_shaped c.1 hu) (q s I)
          · cases neg with
            | true => exact SeqAt.notIn_list_reads r2 r1 (SeqAt.canLay_of_shaped c.2) (SeqAt.canLay_of_shaped c.1) (room_in_shaped c.1 hu) (q s I)
            | false => exact SeqAt.in_list_reads r2 r1 (SeqAt.canLay_of_shaped c.2) (SeqAt.canLay_of_shaped c.1) (room_in_shaped c.1 hu) (q s I)
        · split at h
          · rename_i es hes
            split at h
            · rename_i c2
              cases h
              exact in_half hu I wf (asD_rh I wf rv hd ru) rw ru' hes c2 neg (q s I)
            · cases h
          · cases h
      · cases h
theorem oIn (hu : X.A.units + 100 < cLine) : ORul X (compareOp .In) gIn := by
  intro pins s σ A S H x y u u' v w Q I wf rv rw ru ru' p
  unfold gIn at p
  split at p
  · rename_i b hb
    exact in_core (by omega) I wf rv rw ru ru' hb false fun s' I' => ⟨.bl b, H, I', rfl, p _ H .refl wf (.bl _)⟩
  · exact p.elim
theorem oNotIn (hu : X.A.units + 100 < cLine) : ORul X (compareOp .NotIn) gNotIn := by
  intro pins s σ A S H x y u u' v w Q I wf rv rw ru ru' p
  unfold gNotIn at p
  split at p
  · rename_i b hb
    exact in_core (by omega) I wf rv rw ru ru' hb true fun s' I' => ⟨.bl (!b), H, I', rfl, p _ H .refl wf (.bl _)⟩
  · exact p.elim
def isNone : Val → Bool
  | .d .none => true
  | _ => false
theorem isNone_ok {x : V} {v : Val} (r : Rv K A H x v) : decide (x = V.non) = isNone v := by
  cases v with
  | c n => obtain ⟨a, _, rfl⟩ := r; rfl
  | f k => exact r.elim
  | g cs i => exact r.elim
  | x => obtain ⟨a, rfl⟩ := r; rfl
  | t its => obtain ⟨a, xs, rfl, _⟩ := r; rfl
  | o nm => obtain ⟨a, _, rfl⟩ := r; rfl
  | z ds => obtain ⟨a, xs, rfl, _⟩ := r; rfl
  | d y =>
    have r' : Rp K A.V H x y := r
    cases r' <;> rfl
def gIsN : Val → Val → Sto → Res Val
  | v, .d .none, S => .ok (.d (.bool (isNone v))) S
  | _, _, _ => .no
def gNotN : Val → Val → Sto → Res Val
  | v, .d .none, S => .ok (.d (.bool (!isNone v))) S
  | _, _, _ => .no
theorem oIsN : ORul X (compareOp .Is) gIsN := by
  intro pins s σ A S H x y u u' v w Q I wf rv rw ru ru' p
  unfold gIsN at p
  split at p
  · have e : y = .non := by
      have r' : Rp X.K A.V H y .none := rw
      cases r'; rfl
    exact op_isN pins s σ H x y u u' Q I ru ru' ⟨e, by rw [isNone_ok rv]; exact p _ H .refl wf (.bl _)⟩
  · exact p.elim
theorem oNotN : ORul X (compareOp .IsNot) gNotN := by
  intro pins s σ A S H x y u u' v w Q I wf rv rw ru ru' p
  unfold gNotN at p
  split at p
  · have e : y = .non := by
      have r' : Rp X.K A.V H y .none := rw
      cases r'; rfl
    exact op_notN pins s σ H x y u u' Q I ru ru' ⟨e, by rw [isNone_ok rv]; exact p _ H .refl wf (.bl _)⟩
  · exact p.elim
end
end MV
set_option Elab.async false
set_option linter.all false
set_option maxRecDepth 100000
/-! Readings by mirrors: subscripts, slices, stores, methods, built-ins. -/
namespace MV
open PySem PySem.Spec PyProof.Rows L2
section
variable {X : Cx} {K : Frg} {a b : Expr} {fa fb : Sx} {pos : Pos} {A A' A2 : Wd} {H H' H2 : Hp} {S S' : Sto} {Q : VK} {ρ : Envi} {σ : L2.St} {D : Ends}
/-! ### x[i] -/
def gIxS (v : Val) (i : Int) (S : Sto) : Res Val := match seqOf S v with
  | some q => match atI q.2.1 i with
    | some d => .ok (.d d) S
    | none => .no
  | none => .no
def gIx : Val → Val → Sto → Res Val := fun v w S => match v, w with
  | .d (.str z), .d (.int i) => if z.length ≤ sizeLine then (match atI z.cps.toList i with
    | some c => .ok (.d (.str ⟨#[c]⟩)) S
    | none => .no) else .no
  | v, w => match asM S v with
    | some ps => match w with
      | .d y => match kOf y with
        | some k => match look ps k with
          | some d => .ok (.d d) S
          | none => .no
        | none => .no
      | _ => .no
    | none => match w with
      | .d (.int i) => gIxS v i S
      | _ => .no
theorem RpL.atI {L : List Addr} {xs : List V} {ds : List PyData} {i : Int} {d : PyData} (r : RpL K L H xs ds) (h : L2.atI ds i = some d) : ∃ v, L2.atI xs i = some v ∧ Rp K L H v d := by
  unfold L2.atI at h ⊢
  rw [r.length]
  cases q : ixN ds.length i with
  | none => rw [q] at h; cases h
  | some j =>
    rw [q] at h
    exact r.get h
theorem xIx (hu : X.A.units + 1 < cLine) : IxR X (rO X.K gIx) := by
  intro value slice pins s σ H x y u u' Q I ru ru' ⟨A, S, v, w, wf, rv, rw, p⟩ hs
  unfold gIx at p
  split at p
  · split at p
    · rename_i c
      split at p
      · rename_i z hz
        exact ix_str value slice pins s σ H x y u u' Q I ru ru' ⟨_, _, _, Rp.str_inv rv, Rp.int_inv rw, c, hz, p _ H .refl wf (.str _)⟩ hs
      · exact p.elim
    · exact p.elim
  · split at p
    · rename_i ps hps
      split at p
      · split at p
        · rename_i k hk
          split at p
          · rename_i d hd
            obtain ⟨a, kvs, e1, g1, r1⟩ := asM_ok wf rv hps
            subst e1
            cases ru
            have e2 := Rp.key rw hk
            subst e2
            rcases look_ok (k := k) r1 with ⟨h1, h2⟩ | ⟨d', z, h1, h2, h3⟩
            · rw [hd] at h1; cases h1
            · rw [hd] at h1
              cases h1
              have g : DGet H a (kV k) (some z) := by
                have g := dget_rd (k := k) g1
                rwa [h2] at g
              exact tail_any (dict_typeIs I g) slot_dict_getitem.lookup (d_getItem hu I g ru' fun w' s' I' r' => ⟨z, H, I', r', p z H .refl wf h3⟩) hs
          · exact p.elim
        · exact p.elim
      · exact p.elim
    · split at p
      · rename_i i _
        unfold gIxS at p
        split at p
        · rename_i q hq
          split at p
          · rename_i d hd
            obtain ⟨a, xs, e1, r1, sq⟩ := seq_at (t := q.1) (ds := q.2.1) (g := q.2.2) hq wf rv
            obtain ⟨z, hz, rz⟩ := r1.atI hd
            cases ht : q.1 with
            | true =>
              rw [ht] at sq
              exact ix_tup value slice pins s σ H x y u u' Q I ru ru' ⟨a, xs, _, z, e1, Rp.int_inv rw, sq, hz, p z H .refl wf rz⟩ hs
            | false =>
              rw [ht] at sq
              exact ix_list value slice pins s σ H x y u u' Q I ru ru' ⟨a, xs, _, z, e1, Rp.int_inv rw, sq, hz, p z H .refl wf rz⟩ hs
          · exact p.elim
        · exact p.elim
      · exact p.elim
theorem eIx (hu : X.A.units + 100 < cLine) (ha : PE X a (tE X.K fa)) (hb : PE X b (tE X.K fb)) (hs : PlainIx b := by exact fun _ _ => rfl) : PE X (.Subscript a b pos) (tE X.K (ev2 gIx fa fb)) := PEi (pe_ix (xIx (by omega)) ha hb hs) fun _ _ _ => ev2_ok

/-! ### x[i:j] -/
abbrev SO := Envi → Sto → Res (Option Int)
def PostO (K : Frg) (A : Wd) (H : Hp) (Q : Option Int → Hp → Prop) : Res (Option Int) → Prop
  | .ok b S => ∀ H', Ext A H A H' → Wf K A S H' → Q b H'
  | .exc _ _ => False
  | .no => False
def tOp' (K : Frg) (f : SO) : TO := fun σ H Q => At K σ H fun A ρ S => PostO K A H Q (f ρ S)
theorem PostO.seq {β : Type} {P : Res β → Prop} {Q : Option Int → Hp → Prop} {r : Res (Option Int)} {g : Option Int → Sto → Res β} (h : P (r.bind g)) (h0 : P .no → False) (h1 : ∀ e S, P (.exc e S) → False)
    (k : ∀ v S1 H1, Ext A H A H1 → Wf K A S1 H1 → P (g v S1) → Q v H1) : PostO K A H Q r := by
  cases r with
  | ok v S1 => exact fun H1 e w => k v S1 H1 e w h
  | exc e S => exact (h1 _ _ h).elim
  | no => exact (h0 h).elim
def oNo : SO := fun _ S => .ok none S
def oYes (f : Sx) : SO := fun ρ S => (f ρ S).bind fun v S1 => match v with
  | .d (.int i) => .ok (some i) S1
  | _ => .no
theorem POi {e : Option Expr} {t t' : TO} (h : PO X e t) (i : ∀ σ H Q, t' σ H Q → t σ H Q) : PO X e t' := ⟨fun pins s σ H Q I q => h.run pins s σ H Q I (i σ H Q q)⟩
theorem poN : PO X none (tOp' X.K oNo) := POi po_none fun σ H Q ⟨A, S, ρ, w, env, p⟩ => p H .refl w
theorem poS (h : PE X a (tE X.K fa)) : PO X (some a) (tOp' X.K (oYes fa)) := POi (po_some h) fun σ H Q ⟨A, S, ρ, w, env, p⟩ =>
  at_seq (P := PostO X.K A H Q) w env p (fun h => h) (fun _ _ h => h) fun v S1 x H1 e1 w1 r1 p1 => by
    split at p1
    · exact ⟨_, Rp.int_inv r1, p1 H1 e1 w1⟩
    · exact p1.elim
def cutD (ds : List PyData) (lo hi : Option Int) : List PyData := (ds.drop (HT.sIx ds.length 0 lo)).take (HT.sIx ds.length ds.length hi - HT.sIx ds.length 0 lo)
theorem RpL.cut {L : List Addr} {xs : List V} {ds : List PyData} (r : RpL K L H xs ds) (lo hi : Option Int) : RpL K L H (cutV xs lo hi) (cutD ds lo hi) := by
  unfold cutV cutD
  rw [r.length]
  exact (r.drop _).take _
def gSl (v : Val) (lo hi : Option Int) (S : Sto) : Res Val := match seqOf S v with
  | some (true, ds, _) => .ok (.d (.tuple (cutD ds lo hi))) S
  | some (false, ds, _) => .ok (.f (.lst (cutD ds lo hi))) S
  | none => .no
def rS (K : Frg) : V → Option Int → Option Int → Hp → VK → Prop := fun x lo hi H Q => ∃ A S v, Wf K A S H ∧ Rv K A H x v ∧ Post K A H Q (gSl v lo hi S)
theorem slR : SlR X (rS X.K) := by
  intro pins s σ H x u vl vu lo hi sl Q I ru hs pl pu ⟨A, S, v, wf, rv, p⟩
  unfold gSl at p
  split at p
  · rename_i ds g hq
    obtain ⟨a, xs, e1, r1, sq⟩ := seq_at hq wf rv
    refine sl_tupC pins s σ H x u vl vu lo hi sl Q I ru hs pl pu ⟨a, xs, e1, sq, fun c => ?_, fun c q its hq => Post.tup p .refl wf hq (r1.cut lo hi)⟩
    have e2 : cutD ds lo hi = ds := by
      unfold cutD
      rw [r1.length] at c
      rw [c.1, c.2]
      simp
    rw [e2] at p
    cases v with
    | d y =>
      cases y <;> first | (cases hq; done) | skip
      cases hq
      rw [e1] at rv
      exact p _ H .refl wf rv
    | c n =>
      have hq : (match S[n]? with
        | some (.lst es) => some (false, es, [(n, es)])
        | _ => none) = some (true, ds, g) := hq
      split at hq <;> cases hq
    | z ds => cases hq
    | g cs i => cases hq
    | x => cases hq
    | t its => cases hq
    | o nm => cases hq
    | f k => cases hq
  · rename_i ds g hq
    obtain ⟨a, xs, e1, r1, sq⟩ := seq_at hq wf rv
    exact sl_list pins s σ H x u vl vu lo hi sl Q I ru hs pl pu ⟨a, xs, e1, sq, fun q hq => Post.fresh p wf hq (r1.cut lo hi)⟩
  · exact p.elim
def evSl (f : Sx) (lo hi : SO) : Sx := fun ρ S => (f ρ S).bind fun v S1 => (lo ρ S1).bind fun l S2 => (hi ρ S2).bind fun h S3 => gSl v.th l h S3
theorem eSl {lo hi : Option Expr} {l h : SO} {p2 : Pos} (ha : PE X a (tE X.K fa)) (hl : PO X lo (tOp' X.K l)) (hh : PO X hi (tOp' X.K h)) : PE X (.Subscript a (.Slice lo hi none p2) pos) (tE X.K (evSl fa l h)) := PEi (pe_slice slR ha hl hh) fun σ H Q ⟨A, S, ρ, w, env, p⟩ =>
  at_seq (P := Post X.K A H Q) w env p (fun h => h) (fun _ _ h => h) fun v S1 x H1 e1 w1 r1 p1 => ⟨A, S1, ρ, w1, env.mono e1, PostO.seq (P := Post X.K A H Q) p1 (fun h => h) (fun _ _ h => h) fun lo S2 H2 e2 w2 p2 =>
    ⟨A, S2, ρ, w2, (env.mono e1).mono e2, PostO.seq (P := Post X.K A H Q) p2 (fun h => h) (fun _ _ h => h) fun hi S3 H3 e3 w3 p3 => ⟨A, S3, v.th, w3, (r1.mono e2).mono e3, p3.shift ((e1.trans e2).trans e3) w3⟩⟩⟩

/-! ### x[i] = v -/
def putD (ps : List (PyData × PyData)) (k : Key) (y : PyData) : List (PyData × PyData) :=
  if (look ps k).isSome then ps.map fun p => if kOf p.1 = some k then (p.1, y) else p else ps ++ [(kD k, y)]
theorem RpD.append {L : List Addr} : ∀ {kvs lvs : List (Key × V)} {ps qs : List (PyData × PyData)}, RpD K L H kvs ps → RpD K L H lvs qs → RpD K L H (kvs ++ lvs) (ps ++ qs)
  | _, _, _, _, .nil, t => t
  | _, _, _, _, .cons r s, t => .cons r (RpD.append s t)
theorem RpD.length {L : List Addr} : ∀ {kvs : List (Key × V)} {ps : List (PyData × PyData)}, RpD K L H kvs ps → kvs.length = ps.length
  | _, _, .nil => rfl
  | _, _, .cons _ t => by rw [List.length_cons, List.length_cons, RpD.length t]
theorem RpD.repl {L : List Addr} {k : Key} {v : V} {y : PyData} (ry : Rp K L H v y) : ∀ {kvs : List (Key × V)} {ps : List (PyData × PyData)}, RpD K L H kvs ps →
    RpD K L H (kvs.map fun kv => if kv.1 = k then (kv.1, v) else kv) (ps.map fun p => if kOf p.1 = some k then (p.1, y) else p)
  | _, _, .nil => .nil
  | _, _, .cons (k := j) (v := u) (kvs := kvs) (d := d) (ps := ps) r t => by
    rw [List.map_cons, List.map_cons]
    by_cases e : j = k
    · have h1 : kOf (kD j, d).1 = some k := by rw [← e]; exact kOf_kD j
      rw [if_pos h1, if_pos (show (j, u).1 = k from e)]
      exact .cons ry (RpD.repl ry t)
    · have h1 : ¬ kOf (kD j, d).1 = some k := fun z => e (Option.some.inj ((kOf_kD j).symm.trans z))
      rw [if_neg h1, if_neg (show ¬ (j, u).1 = k from e)]
      exact .cons r (RpD.repl ry t)
theorem RpD.put {L : List Addr} {k : Key} {v : V} {y : PyData} (ry : Rp K L H v y) {kvs : List (Key × V)} {ps : List (PyData × PyData)} (r : RpD K L H kvs ps) : RpD K L H (putK kvs k v) (putD ps k y) := by
  unfold putK putD
  rw [valV_any]
  rcases look_ok (k := k) r with ⟨h1, h2⟩ | ⟨d, u, h1, h2, _⟩
  · rw [h1, h2]
    exact r.append (.cons ry .nil)
  · rw [h1, h2]
    exact r.repl ry
def gPut (v i x : Val) (S : Sto) : Option Sto := match v, x with
  | .c n, .d y => match S[n]? with
    | some (.lst ds) => match i with
      | .d (.int k) => match ixN ds.length k with
        | some j => some (S.set n (.lst (ds.set j y)))
        | none => none
      | _ => none
    | some (.dic ps) => match i with
      | .d z => match kOf z with
        | some k => if ps.length < sizeLine then some (S.set n (.dic (putD ps k y))) else none
        | none => none
      | _ => none
    | _ => none
  | _, _ => none
def rP (K : Frg) : V → V → V → Hp → (Hp → Prop) → Prop := fun o i x H Q => ∃ A S v w y S', Wf K A S H ∧ Rv K A H o v ∧ Rv K A H i w ∧ Rv K A H x y ∧ gPut v w y S = some S' ∧ ∀ H', Ext A H A H' → Wf K A S' H' → Q H'
theorem set_any (hu : X.A.units + 1 < cLine) : PSet X (rP X.K) := by
  intro pins s σ H o i x ov iv xv Q I ro ri rx ⟨A, S, v, w, y, S', wf, rv, rw, ry, hp, q⟩
  unfold gPut at hp
  split at hp
  · rename_i n y'
    obtain ⟨a, ha, e1⟩ := rv
    subst e1
    have ma : a ∈ A.A := List.mem_of_getElem? ha
    split at hp
    · rename_i ds hds
      obtain ⟨xs, h2, h3⟩ := wf.ok n a _ ha hds
      split at hp
      · rename_i k
        split at hp
        · rename_i j hj
          cases hp
          refine set_list pins s σ H _ i x ov iv xv Q I ro ri rx ⟨a, xs, k, j, rfl, Rp.int_inv rw, h2, by rw [h3.length]; exact hj, q _ (.upd ma) (wf.upd ha ⟨_, upd_same, (h3.set ry j).mono (kp_upd ma)⟩)⟩
        · cases hp
      · cases hp
    · rename_i ps hps
      obtain ⟨kvs, h2, h3⟩ := wf.ok n a _ ha hps
      split at hp
      · rename_i z
        split at hp
        · rename_i k hk
          split at hp
          · rename_i hl
            cases hp
            have e2 := Rp.key rw hk
            subst e2
            cases ro
            have hl' : kvs.length < sizeLine := by rw [h3.length]; exact hl
            exact d_setItem hu I (DPut.k (v := x) h2 hl') ri rx fun s' I' => ⟨_, I', q _ (.upd ma) (wf.upd ha ⟨_, upd_same, (h3.put ry).mono (kp_upd ma)⟩)⟩
          · cases hp
        · cases hp
      · cases hp
    · cases hp
  · cases hp
def sPut (fo fi fe : Sx) : Ss := fun ρ S => (fe ρ S).bind fun x S1 => (fo ρ S1).bind fun v S2 => (fi ρ S2).bind fun i S3 => match gPut v.th i.th x.th S3 with
  | some S4 => .ok (.nx ρ) S4
  | none => .no
theorem sPutR {o i : Expr} {fo fi : Sx} {p2 : Pos} (hu : X.A.units + 100 < cLine) (ho : PE X o (tE X.K fo)) (hi : PE X i (tE X.K fi)) (he : PE X a (tE X.K fa))
    (hx : ∀ v, assign (.Subscript o i p2) X.env v = (do
      let ov ← holding [v] (eval o X.env)
      let iv ← holding [v, ov] (eval i X.env)
      standAt p2
      holding [v, ov, iv] (setItem ov iv v)
      release [v, ov, iv] []) := by intro _; rfl)
    (hs : swapsWithSole [.Subscript o i p2] a pos.line X.env = pure false := by rfl) (hw : swappedStores [.Subscript o i p2] a X.env = pure none := by rfl)
    (h1 : (assignEach [.Subscript o i p2] X.env).map (·.2) = [assign (.Subscript o i p2) X.env] := by rfl) : PS X (.Assign [.Subscript o i p2] a pos) (tS X.K (sPut fo fi fa)) :=
  PSi (ps_asg he (pg_sub ho hi (set_any (by omega)) hx) hs hw h1) fun D σ H ⟨A, S, ρ, w, env, p⟩ =>
  at_seq (P := PostS X.K A H D) w env p (fun h => h) (fun _ _ h => h) fun x S1 xv H1 e1 w1 r1 p1 =>
    at_seq (P := PostS X.K A H D) w1 (env.mono e1) p1 (fun h => h) (fun _ _ h => h) fun v S2 ov H2 e2 w2 r2 p2 =>
      at_seq (P := PostS X.K A H D) w2 ((env.mono e1).mono e2) p2 (fun h => h) (fun _ _ h => h) fun i S3 iv H3 e3 w3 r3 p3 => by
        split at p3
        · rename_i S4 h4
          refine ⟨A, S3, v.th, i.th, x.th, S4, w3, r2.mono e3, r3, r1.mono (e2.trans e3), h4, fun H4 e4 w4 => ?_⟩
          have e := ((e1.trans e2).trans e3).trans e4
          exact p3 A σ H4 e w4 (env.mono e)
        · exact p3.elim

/-! ### x += e -/
def sAug (i : Nat) (g : Val → Val → Sto → Res Val) (f : Sx) : Ss := fun ρ S => match ρ[i]? with
  | some (some v) => (f ρ S).bind fun w S1 => (g v w.th S1).bind fun z S2 => .ok (.nx (ρ.set i (some z.th))) S2
  | _ => .no
theorem sAugR (i : Nat) {x : Str} {op : Operator} {g : Val → Val → Sto → Res Val} {pos' : Pos} (hN : X.N.Nodup) (hi : X.N[i]? = some x) (hx : Loc X.env.scope x) (h : ORul X (inplaceOp op) g) (he : PE X a (tE X.K fa))
    (hf : X.fn x = true ∨ X.env.scope.names.lookup x = some .local := by first | exact .inl rfl | exact .inr rfl | assumption) : PS X (.AugAssign (.Name x pos') op a pos) (tS X.K (sAug i g fa)) :=
  PSi (ps_aug (i := i) hN hi hx he (ti := rO X.K g) (fun pins s σ H x y v u Q I rv ru hq => h.op pins s σ H x y v u Q I rv ru hq) hf) fun D σ H ⟨A, S, ρ, w, env, p⟩ => by
    dsimp only [sAug] at p
    split at p
    · rename_i v hv
      obtain ⟨y, h1, h2⟩ := env.get i v hv
      refine ⟨y, h1, at_seq (P := PostS X.K A H D) w env p (fun h => h) (fun _ _ h => h) fun u S1 z H1 e1 w1 r1 p1 => ?_⟩
      refine ⟨A, S1, v, u.th, w1, h2.mono e1, r1, Post.seq (P := PostS X.K A H D) p1 (fun h => h) (fun _ _ h => h) fun t S2 tv H2 e2 w2 r2 p2 => ?_⟩
      have e := e1.trans e2
      exact p2 A _ H2 e w2 ((env.mono e).set r2)
    · exact p.elim
theorem oAugAdd : ORul X (inplaceOp .Add) (gInt (fun _ _ => true) fun i j => .int (i + j)) := oInt0 iop_add fun _ _ _ _ => .int _
theorem oAugSub : ORul X (inplaceOp .Sub) gSub := oInt0 iop_sub fun _ _ _ _ => .int _
end
end MV
set_option Elab.async false
set_option linter.all false
set_option maxRecDepth 100000
set_option maxHeartbeats 1000000
/-! Readings by mirrors: methods, built-ins. -/
namespace MV
open PySem PySem.Spec PyProof.Rows L2
section
variable {X : Cx} {K : Frg} {a b : Expr} {fa fb : Sx} {pos : Pos} {A A' A2 : Wd} {H H' H2 : Hp} {S S' : Sto} {Q : VK} {ρ : Envi} {σ : L2.St} {D : Ends}
/-! ### methods -/
def MRul (X : Cx) (id : String) (g : Val → List Val → Sto → Res Val) : Prop :=
  ∀ (pins : List (Addr × Obj)) (s : Shared) (σ : L2.St) (A : Wd) (S : Sto) (H : Hp) (x : V) (xs : List V) (u : Value) (us : List Value) (v : Val) (vs : List Val) (Q : VK), Inv X pins σ H s → Wf X.K A S H → Rv X.K A H x v → RvL X.K A H xs vs → RelV x u → Vals xs us →
    Post X.K A H Q (g v vs S) → wpAny (model X.prog X.w) X.A (call (.builtin id) (u :: us)) (EP X pins σ Q) X.xe s
def rM (K : Frg) (g : Val → List Val → Sto → Res Val) : V → List V → Hp → VK → Prop := fun x xs H Q => ∃ A S v vs, Wf K A S H ∧ Rv K A H x v ∧ RvL K A H xs vs ∧ Post K A H Q (g v vs S)
theorem MRul.mt {id : String} {g : Val → List Val → Sto → Res Val} (h : MRul X id g) : MtR X id (rM X.K g) := fun pins s σ H x xs u us Q I ru rus ⟨A, S, v, vs, w, r1, r2, p⟩ => h pins s σ A S H x xs u us v vs Q I w r1 r2 ru rus p
/-- what kind of thing a method is asked of -/
def tyB (T : String) (S : Sto) (v : Val) : Bool :=
  (T == "list" && (asL S v).isSome) || (T == "dict" && (asM S v).isSome) || (T == "str" && (match v with | .d (.str _) => true | _ => false))
/-- .. or a locked dict -/
def tyW (K : Frg) (T : String) (x : V) (H : Hp) : Prop := tyV K T x H ∨ (T = "dict" ∧ ∃ a o kvs, x = .ref a ∧ H a = some (.frz o (.dK kvs)))
theorem tyW_is {pins : List (Addr × Obj)} {s : Shared} {T : String} {x : V} {v : Value} (I : Inv X pins σ H s) (r : RelV x v) (ty : tyW X.K T x H) : s.TypeIs v T ∧ ∀ a, v = .ref a → ∃ ob, s.heap.get? a = some ob ∧ ob.dict = none := by
  rcases ty with ty | ⟨rfl, a, o, kvs, rfl, hk⟩
  · exact tyV_is I r ty
  · cases r
    obtain ⟨hs, hgd, hx, es, ep, vs, hdt, hsz, kv, hm⟩ := I.frzK hk
    refine ⟨⟨o, hgd, hx.1⟩, fun a e2 => ?_⟩
    cases e2
    exact ⟨o, hgd, hx.2.1⟩
section
variable {o e : Expr} {es : List Expr} {to : TE} {t : TA} {name : Str} {apos cpos : Pos} {T id : String} {r : V → List V → Hp → VK → Prop}
def tWM0 (K : Frg) (T : String) (r : V → List V → Hp → VK → Prop) (to : TE) : TE := fun σ H Q => to σ H fun x H1 => tyW K T x H1 ∧ r x [] H1 Q
def tWM (K : Frg) (T : String) (r : V → List V → Hp → VK → Prop) (to : TE) (t : TA) : TE := fun σ H Q => to σ H fun x H1 => tyW K T x H1 ∧ t σ H1 fun xs H2 => r x xs H2 Q
theorem pe_wm0 (pa : PlainAttrs T) (slot : Slot T name id) (hty : typeOf (.builtin id) = pure (.type "method_descriptor")) (hm : MtR X id r) (ho : PE X o to)
    (hbase : attributeBase o name X.env (eval o X.env) = eval o X.env := by rfl) (hline : (apos.endLine == cpos.line) = true := by rfl) : PE X (.Call (.Attribute o name apos) [] [] cpos) (tWM0 X.K T r to) := by
  refine ⟨fun pins s σ H Q I h => ?_⟩
  refine wpAny_Call_method0_late hbase hline (thn (ho.run pins s σ H _ I h) fun v s1 ⟨x, H1, I1, r1, ty, q1⟩ => ?_)
  obtain ⟨h1, h2⟩ := tyW_is I1 r1 ty
  exact ⟨T, id, pa, slot, hty, h1, h2, Calls.callWith_builtin rfl (PySem.evalArgs_none (hm pins s1 σ H1 x [] v [] Q I1 r1 .nil q1))⟩
theorem pe_wm (pa : PlainAttrs T) (slot : Slot T name id) (hty : typeOf (.builtin id) = pure (.type "method_descriptor")) (hm : MtR X id r) (ho : PE X o to) (ha : PA X (e :: es) t)
    (hbase : attributeBase o name X.env (eval o X.env) = eval o X.env := by rfl)
    (hfew : ((backTo cpos (starEach (e :: es) X.env)).all (fun x => !x.1) && (backToKw cpos (keywordEach [] X.env)).all (fun x => x.1.isSome)
      && decide ((e :: es).length + ([] : List Keyword).length + (if ([] : List Keyword).isEmpty then 0 else 1) < 30)) = true := by rfl)
    (hline : (apos.endLine == cpos.line) = true := by rfl) (hs : starEach (e :: es) X.env = (false, eval e X.env) :: starEach es X.env := by rfl) (hplain : (backTo cpos (starEach es X.env)).any (·.1) = false := by rfl) :
    PE X (.Call (.Attribute o name apos) (e :: es) [] cpos) (tWM X.K T r to t) := by
  refine ⟨fun pins s σ H Q I h => ?_⟩
  refine wpAny_Call_method_late hbase hfew hline rfl (thn (ho.run pins s σ H _ I h) fun v s1 ⟨x, H1, I1, r1, ty, q1⟩ => ?_)
  obtain ⟨h1, h2⟩ := tyW_is I1 r1 ty
  refine ⟨T, id, pa, slot, hty, h1, h2, ?_⟩
  have hA := ha.run cpos pins s1 σ H1 _ I1 q1
  rw [hs] at hA ⊢
  refine Calls.callWith_builtin (by show (false || (backTo cpos (starEach es X.env)).any (·.1)) = false; rw [hplain] <;> rfl) (Calls.evalArgs_plain ?_)
  exact thn hA fun us s2 ⟨vs, H2, I2, r2, q2⟩ => hm pins s2 σ H2 x vs v us Q I2 r1 r2 q2
end
theorem tyB_ok {T : String} {x : V} {v : Val} (w : Wf K A S H) (r : Rv K A H x v) (h : tyB T S v = true) : tyW K T x H := by
  unfold tyB at h
  rw [Bool.or_eq_true, Bool.or_eq_true, Bool.and_eq_true, Bool.and_eq_true, Bool.and_eq_true] at h
  rcases h with (⟨h1, h2⟩ | ⟨h1, h2⟩) | ⟨h1, h2⟩
  · obtain ⟨ds, hd⟩ := Option.isSome_iff_exists.mp h2
    obtain ⟨a, xs, rfl, g, _⟩ := asL_ok w r hd
    exact .inl (.inl ⟨eq_of_beq h1, xs, SqL.of g⟩)
  · obtain ⟨ds, hd⟩ := Option.isSome_iff_exists.mp h2
    obtain ⟨a, xs, rfl, g, _⟩ := asM_ok w r hd
    rcases g with g | ⟨o, g⟩
    · exact .inl (.inr (.inr (.inl ⟨eq_of_beq h1, .inl ⟨xs, g⟩⟩)))
    · exact .inr ⟨eq_of_beq h1, a, o, xs, rfl, g⟩
  · split at h2
    · rw [Rp.str_inv r]; exact .inl (eq_of_beq h1)
    · cases h2
def evMt (T : String) (g : Val → List Val → Sto → Res Val) (fo : Sx) (f : SA) : Sx := fun ρ S => (fo ρ S).bind fun v S1 => if tyB T S1 v.th = true then (f ρ S1).bind fun vs S2 => g v.th vs S2 else .no
section
variable {o e : Expr} {es : List Expr} {fo : Sx} {f : SA} {name : Str} {apos cpos : Pos} {T id : String} {g : Val → List Val → Sto → Res Val}
theorem eM (pa : PlainAttrs T) (slot : Slot T name id) (hty : typeOf (.builtin id) = pure (.type "method_descriptor")) (hm : MRul X id g) (ho : PE X o (tE X.K fo)) (ha : PA X (e :: es) (tAr X.K f))
    (hbase : attributeBase o name X.env (eval o X.env) = eval o X.env := by rfl)
    (hfew : ((backTo cpos (starEach (e :: es) X.env)).all (fun x => !x.1) && (backToKw cpos (keywordEach [] X.env)).all (fun x => x.1.isSome)
      && decide ((e :: es).length + ([] : List Keyword).length + (if ([] : List Keyword).isEmpty then 0 else 1) < 30)) = true := by rfl)
    (hline : (apos.endLine == cpos.line) = true := by rfl) (hs : starEach (e :: es) X.env = (false, eval e X.env) :: starEach es X.env := by rfl) (hplain : (backTo cpos (starEach es X.env)).any (·.1) = false := by rfl) :
    PE X (.Call (.Attribute o name apos) (e :: es) [] cpos) (tE X.K (evMt T g fo f)) := PEi (pe_wm pa slot hty hm.mt ho ha hbase hfew hline hs hplain) fun σ H Q ⟨A, S, ρ, w, env, p⟩ =>
  at_seq (P := Post X.K A H Q) w env p (fun h => h) (fun _ _ h => h) fun v S1 x H1 e1 w1 r1 p1 => by
    split at p1
    · rename_i c
      exact ⟨tyB_ok w1 r1 c, A, S1, ρ, w1, env.mono e1, PostA.seq (P := Post X.K A H Q) p1 (fun h => h) (fun _ _ h => h) fun vs S2 xs H2 e2 w2 r2 p2 => ⟨A, S2, v.th, vs, w2, r1.mono e2, r2, p2.shift (e1.trans e2) w2⟩⟩
    · exact p1.elim
theorem eM0 (pa : PlainAttrs T) (slot : Slot T name id) (hty : typeOf (.builtin id) = pure (.type "method_descriptor")) (hm : MRul X id g) (ho : PE X o (tE X.K fo))
    (hbase : attributeBase o name X.env (eval o X.env) = eval o X.env := by rfl) (hline : (apos.endLine == cpos.line) = true := by rfl) : PE X (.Call (.Attribute o name apos) [] [] cpos) (tE X.K (evMt T g fo aNil)) :=
  PEi (pe_wm0 pa slot hty hm.mt ho hbase hline) fun σ H Q ⟨A, S, ρ, w, env, p⟩ =>
  at_seq (P := Post X.K A H Q) w env p (fun h => h) (fun _ _ h => h) fun v S1 x H1 e1 w1 r1 p1 => by
    split at p1
    · rename_i c
      exact ⟨tyB_ok w1 r1 c, A, S1, v.th, [], w1, r1, .nil, p1.shift e1 w1⟩
    · exact p1.elim
end
/-- the list cell that v is -/
def cellL (S : Sto) : Val → Option (Nat × List PyData)
  | .c n => match S[n]? with
    | some (.lst ds) => some (n, ds)
    | _ => none
  | _ => none
theorem cellL_ok {x : V} {v : Val} {n : Nat} {ds : List PyData} (w : Wf K A S H) (r : Rv K A H x v) (h : cellL S v = some (n, ds)) : ∃ a xs, A.A[n]? = some a ∧ a ∈ A.A ∧ x = .ref a ∧ H a = some (.lst xs) ∧ RpL K A.V H xs ds := by
  cases v with
  | c m =>
    have h : (match S[m]? with
      | some (.lst es) => some (m, es)
      | _ => none) = some (n, ds) := h
    split at h
    · rename_i es q
      cases h
      obtain ⟨a, h1, rfl⟩ := r
      obtain ⟨xs, h2, h3⟩ := w.ok n a _ h1 q
      exact ⟨a, xs, h1, List.mem_of_getElem? h1, rfl, h2, h3⟩
    · cases h
  | _ => cases h
theorem Post.put {n : Nat} {a : Addr} {ds : List PyData} {xs : List V} {y : V} {d : PyData} (p : Post K A H Q (.ok (.d d) (S.set n (.lst ds)))) (w : Wf K A S H) (ha : A.A[n]? = some a) (r : RpL K A.V H xs ds) (ry : Rp K A.V H y d) : Q y (L2.upd H a (.lst xs)) := by
  have ma : a ∈ A.A := List.mem_of_getElem? ha
  exact p y _ (.upd ma) (w.upd ha ⟨xs, upd_same, r.mono (kp_upd ma)⟩) (ry.mono (kp_upd ma))
def gAppend (v : Val) (vs : List Val) (S : Sto) : Res Val := match cellL S v, vs with
  | some (n, ds), [.d y] => if ds.length < sizeLine then .ok (.d .none) (S.set n (.lst (ds ++ [y]))) else .no
  | _, _ => .no
theorem mAppend : MRul X "list.append" gAppend := by
  intro pins s σ A S H x xs u us v vs Q I wf rv rvs ru rus p
  unfold gAppend at p
  split at p
  · rename_i n ds y h1
    split at p
    · rename_i hl
      obtain ⟨a, ys, ha, ma, rfl, h2, h3⟩ := cellL_ok wf rv h1
      cases rvs with | cons r1 r2 => cases r2; exact mt_append pins s σ H _ _ u us Q I ru rus ⟨a, ys, _, rfl, rfl, h2, by rw [h3.length]; exact hl, p.put wf ha (h3.append (.cons r1 .nil)) .non⟩
    · exact p.elim
  · exact p.elim
def gExtend (v : Val) (vs : List Val) (S : Sto) : Res Val := match cellL S v, vs with
  | some (n, ds), [w] => match asL S w with
    | some es => if ds.length + es.length ≤ sizeLine then .ok (.d .none) (S.set n (.lst (ds ++ es))) else .no
    | none => .no
  | _, _ => .no
theorem mExtend : MRul X "list.extend" gExtend := by
  intro pins s σ A S H x xs u us v vs Q I wf rv rvs ru rus p
  unfold gExtend at p
  split at p
  · rename_i n ds y h1
    split at p
    · rename_i es h4
      split at p
      · rename_i hl
        obtain ⟨a, ys, ha, ma, rfl, h2, h3⟩ := cellL_ok wf rv h1
        cases rvs with | cons r1 r2 =>
          cases r2
          obtain ⟨b, zs, rfl, h5, h6⟩ := asL_ok wf r1 h4
          exact mt_extend pins s σ H _ _ u us Q I ru rus ⟨a, b, ys, zs, rfl, rfl, h2, h5, by rw [h3.length, h6.length]; exact hl, p.put wf ha (h3.append h6) .non⟩
      · exact p.elim
    · exact p.elim
  · exact p.elim
def gPop (v : Val) (vs : List Val) (S : Sto) : Res Val := match cellL S v, vs with
  | some (n, ds), [] => match ds[ds.length - 1]? with
    | some y => .ok (.d y) (S.set n (.lst ds.dropLast))
    | none => .no
  | some (n, ds), [.d (.int i)] => if -(2 ^ 63) ≤ i ∧ i < 2 ^ 63 then match seqIndex? i ds.length with
    | some k => match ds[k]? with
      | some y => .ok (.d y) (S.set n (.lst (ds.eraseIdx k)))
      | none => .no
    | none => .no else .no
  | _, _ => .no
theorem mPop : MRul X "list.pop" gPop := by
  intro pins s σ A S H x xs u us v vs Q I wf rv rvs ru rus p
  unfold gPop at p
  split at p
  · rename_i n ds h1
    split at p
    · rename_i y hy
      obtain ⟨a, ys, ha, ma, rfl, h2, h3⟩ := cellL_ok wf rv h1
      cases rvs
      obtain ⟨z, hz, rz⟩ := h3.get hy
      exact mt_pop pins s σ H _ _ u us Q I ru rus ⟨a, ys, z, rfl, rfl, h2, by rw [h3.length]; exact hz, p.put wf ha h3.dropLast rz⟩
    · exact p.elim
  · rename_i n ds i h1
    split at p
    · rename_i hi
      split at p
      · rename_i k hk
        split at p
        · rename_i y hy
          obtain ⟨a, ys, ha, ma, rfl, h2, h3⟩ := cellL_ok wf rv h1
          cases rvs with | cons r1 r2 =>
            cases r2
            obtain ⟨z, hz, rz⟩ := h3.get hy
            have e1 := Rp.int_inv r1
            subst e1
            exact mt_popAt pins s σ H _ _ u us Q I ru rus ⟨a, ys, i, k, z, rfl, rfl, h2, hi.1, hi.2, by rw [h3.length]; exact hk, hz, p.put wf ha (h3.eraseIdx k) rz⟩
        · exact p.elim
      · exact p.elim
    · exact p.elim
  · exact p.elim
def gInsert (v : Val) (vs : List Val) (S : Sto) : Res Val := match cellL S v, vs with
  | some (n, ds), [.d (.int i), .d y] => if ds.length < sizeLine ∧ 0 ≤ i ∧ i < 2 ^ 63 then .ok (.d .none) (S.set n (.lst (ds.take i.toNat ++ [y] ++ ds.drop i.toNat))) else .no
  | _, _ => .no
theorem mInsert : MRul X "list.insert" gInsert := by
  intro pins s σ A S H x xs u us v vs Q I wf rv rvs ru rus p
  unfold gInsert at p
  split at p
  · rename_i n ds i y h1
    split at p
    · rename_i hl
      obtain ⟨a, ys, ha, ma, rfl, h2, h3⟩ := cellL_ok wf rv h1
      cases rvs with | cons r0 r1 => cases r1 with | cons r1 r2 =>
        cases r2
        have e1 := Rp.int_inv r0
        subst e1
        exact mt_insert pins s σ H _ _ u us Q I ru rus ⟨a, ys, i, _, rfl, rfl, h2, by rw [h3.length]; exact hl.1, hl.2.1, hl.2.2, p.put wf ha (((h3.take _).append (.cons r1 .nil)).append (h3.drop _)) .non⟩
    · exact p.elim
  · exact p.elim

/-! ### built-ins -/
def intsOf : List PyData → Option (List Int)
  | [] => some []
  | .int i :: r => (intsOf r).map (i :: ·)
  | _ :: _ => none
theorem intsOf_ok : ∀ {ds : List PyData} {ns : List Int}, intsOf ds = some ns → ds = ns.map .int
  | [], _, h => by cases h; rfl
  | .int i :: r, ns, h => by
    unfold intsOf at h
    cases q : intsOf r with
    | none => rw [q] at h; cases h
    | some es => rw [q] at h; cases h; rw [intsOf_ok q]; rfl
theorem intsOf_map : ∀ ns : List Int, intsOf (ns.map .int) = some ns
  | [] => rfl
  | n :: ns => by
    show (intsOf (ns.map .int)).map (n :: ·) = _
    rw [intsOf_map ns]; rfl
def bolsOf : List PyData → Option (List Bool)
  | [] => some []
  | .bool i :: r => (bolsOf r).map (i :: ·)
  | _ :: _ => none
theorem bolsOf_ok : ∀ {ds : List PyData} {ns : List Bool}, bolsOf ds = some ns → ds = ns.map .bool
  | [], _, h => by cases h; rfl
  | .bool i :: r, ns, h => by
    unfold bolsOf at h
    cases q : bolsOf r with
    | none => rw [q] at h; cases h
    | some es => rw [q] at h; cases h; rw [bolsOf_ok q]; rfl
theorem bolsOf_map : ∀ ns : List Bool, bolsOf (ns.map .bool) = some ns
  | [] => rfl
  | n :: ns => by
    show (bolsOf (ns.map .bool)).map (n :: ·) = _
    rw [bolsOf_map ns]; rfl
/-- a list that may be read -/
def asR (S : Sto) (v : Val) : Option (List PyData) := match seqOf S v with
  | some (false, ds, _) => some ds
  | _ => none
theorem asR_ok {x : V} {v : Val} {ds : List PyData} (w : Wf K A S H) (r : Rv K A H x v) (h : asR S v = some ds) : ∃ a xs, x = .ref a ∧ SqL K H a xs ∧ RpL K A.V H xs ds := by
  unfold asR at h
  split at h
  · rename_i es g hq
    cases h
    obtain ⟨a, xs, e, r1, sq⟩ := seq_at hq w r
    exact ⟨a, xs, e, sq, r1⟩
  · cases h
def g1 (f : Sto → Val → Option PyData) : List Val → Sto → Res Val
  | [v], S => match f S v with
    | some d => .ok (.d d) S
    | none => .no
  | _, _ => .no
def fLen (S : Sto) (v : Val) : Option PyData := match v with
  | .d (.str z) => if z.length ≤ sizeLine then some (.int z.length) else none
  | v => match asM S v with
    | some ps => some (.int ps.length)
    | none => match seqOf S v with
      | some q => some (.int q.2.1.length)
      | none => none
theorem bLen : BRul X (.builtin "len") (g1 fLen) := by
  intro pins s σ A S H xs us vs Q I wf rvs rus p
  unfold g1 at p
  split at p
  · rename_i v _
    cases rvs with | cons r1 r2 =>
      cases r2
      split at p
      · rename_i d hd
        unfold fLen at hd
        split at hd
        · split at hd
          · rename_i hl
            cases hd
            exact call_len_str pins s σ H _ us Q I rus ⟨_, by rw [Rp.str_inv r1], hl, p _ H .refl wf (.int _)⟩
          · cases hd
        · split at hd
          · rename_i ps hps
            cases hd
            obtain ⟨a, kvs, rfl, h1, h2⟩ := asM_ok wf r1 hps
            obtain ⟨u, rfl, ru⟩ := vals1 rus
            cases ru
            exact d_len I h1 fun t s' I' => ⟨.int kvs.length, H, I', ⟨t, rfl⟩, by rw [h2.length]; exact p _ H .refl wf (.int _)⟩
          · split at hd
            · rename_i q hq
              cases hd
              obtain ⟨a, ys, rfl, h1, h2⟩ := seq_at (t := q.1) (ds := q.2.1) (g := q.2.2) hq wf r1
              refine call_len_seq pins s σ H _ us Q I rus ⟨a, ys, rfl, ?_, by rw [h1.length]; exact p _ H .refl wf (.int _)⟩
              cases ht : q.1 with
              | true => rw [ht] at h2; exact .inr h2
              | false => rw [ht] at h2; exact .inl h2
            · cases hd
      · exact p.elim
  · exact p.elim
def fAbs (_ : Sto) : Val → Option PyData
  | .d (.int i) => some (.int (if i < 0 then -i else i))
  | _ => none
theorem b1i {f : Value} {r : List V → Hp → VK → Prop} {F : Sto → Val → Option PyData} (hc : CallR X f r) (h : ∀ A S H x v d Q, Wf X.K A S H → Rv X.K A H x v → F S v = some d → (∀ y H', Ext A H A H' → Wf X.K A S H' → Rp X.K A.V H' y d → Q y H') → r [x] H Q) : BRul X f (g1 F) := by
  intro pins s σ A S H xs us vs Q I wf rvs rus p
  unfold g1 at p
  split at p
  · cases rvs with | cons r1 r2 =>
      cases r2
      split at p
      · rename_i d hd
        exact hc pins s σ H _ us Q I rus (h A S H _ _ d Q wf r1 hd p)
      · exact p.elim
  · exact p.elim
theorem bAbs : BRul X (.builtin "abs") (g1 fAbs) := b1i call_abs fun A S H x v d Q wf r h p => by
  unfold fAbs at h
  split at h
  · cases h; exact ⟨_, by rw [Rp.int_inv r], p _ H .refl wf (.int _)⟩
  · cases h
def fInt (_ : Sto) : Val → Option PyData
  | .d (.int i) => some (.int i)
  | .d (.bool b) => some (.int (if b then 1 else 0))
  | _ => none
theorem bInt : BRul X (.type "int") (g1 fInt) := b1i call_int1 fun A S H x v d Q wf r h p => by
  unfold fInt at h
  split at h
  · cases h; exact .inl ⟨_, by rw [Rp.int_inv r], p _ H .refl wf (.int _)⟩
  · cases h; exact .inr ⟨_, by rw [Rp.bl_inv r], p _ H .refl wf (.int _)⟩
  · cases h
def fTuple (S : Sto) (v : Val) : Option PyData := match seqOf S v with
  | some q => some (.tuple q.2.1)
  | none => none
theorem bTuple : BRul X (.type "tuple") (g1 fTuple) := b1i call_tupC fun A S H x v d Q wf r h p => by
  unfold fTuple at h
  split at h
  · rename_i q hq
    cases h
    obtain ⟨a, ys, rfl, h1, h2⟩ := seq_at (t := q.1) (ds := q.2.1) (g := q.2.2) hq wf r
    refine ⟨a, ys, rfl, ?_⟩
    cases ht : q.1 with
    | true =>
      rw [ht] at h2
      refine .inr ⟨h2, ?_⟩
      obtain ⟨t, ds, g⟩ := q
      dsimp only at ht
      subst ht
      cases v with
      | d y =>
        cases y <;> first | (cases hq; done) | skip
        cases hq
        exact p _ H .refl wf r
      | c n =>
        have hq : (match S[n]? with
          | some (.lst es) => some (false, es, [(n, es)])
          | _ => none) = some (true, ds, g) := hq
        split at hq <;> cases hq
      | z ds => cases hq
      | g cs i => cases hq
      | x => cases hq
      | t its => cases hq
      | o nm => cases hq
      | f k => cases hq
    | false =>
      rw [ht] at h2
      exact .inl ⟨h2, fun l its hl => p _ _ (.laid hl) (wf.laid hl) (.tup (.inl ⟨⟨its, upd_same⟩, wf.off hl⟩) (h1.mono (Ext.laid hl).kp))⟩
  · cases h
def gList : List Val → Sto → Res Val
  | [v], S => match seqOf S v with
    | some q => .ok (.f (.lst q.2.1)) S
    | none => .no
  | _, _ => .no
theorem bList : BRul X (.type "list") gList := by
  intro pins s σ A S H xs us vs Q I wf rvs rus p
  unfold gList at p
  split at p
  · cases rvs with | cons r1 r2 =>
      cases r2
      split at p
      · rename_i q hq
        obtain ⟨a, ys, rfl, h1, h2⟩ := seq_at (t := q.1) (ds := q.2.1) (g := q.2.2) hq wf r1
        refine call_list_of pins s σ H _ us Q I rus ⟨a, ys, rfl, ?_, fun l hl => p.fresh wf hl h1⟩
        cases ht : q.1 with
        | true => rw [ht] at h2; exact .inr h2
        | false => rw [ht] at h2; exact .inl h2
      · exact p.elim
  · exact p.elim
def fSum (S : Sto) (v : Val) : Option PyData := match asR S v with
  | some ds => (intsOf ds).map fun ns => .int ns.sum
  | none => none
theorem bSum (hc : X.calm = true) : BRul X (.builtin "sum") (g1 fSum) := b1i (cr_sum hc) fun A S H x v d Q wf r h p => by
  unfold fSum at h
  split at h
  · rename_i ds hds
    obtain ⟨ns, hn, e⟩ := Option.map_eq_some_iff.mp h
    subst e
    obtain ⟨a, xs, rfl, h1, h2⟩ := asR_ok wf r hds
    rw [intsOf_ok hn] at h2
    have e := h2.ints
    subst e
    exact ⟨a, ns, rfl, h1, p _ H .refl wf (.int _)⟩
  · cases h
def fAll (S : Sto) (v : Val) : Option PyData := match asR S v with
  | some ds => (bolsOf ds).map fun ns => .bool (ns.all id)
  | none => none
theorem bAll (hc : X.calm = true) : BRul X (.builtin "all") (g1 fAll) := b1i (cr_all hc) fun A S H x v d Q wf r h p => by
  unfold fAll at h
  split at h
  · rename_i ds hds
    obtain ⟨ns, hn, e⟩ := Option.map_eq_some_iff.mp h
    subst e
    obtain ⟨a, xs, rfl, h1, h2⟩ := asR_ok wf r hds
    rw [bolsOf_ok hn] at h2
    have e := h2.bls
    subst e
    exact ⟨a, ns, rfl, h1, p _ H .refl wf (.bl _)⟩
  · cases h
def fAny (S : Sto) (v : Val) : Option PyData := match asR S v with
  | some ds => (bolsOf ds).map fun ns => .bool (ns.any id)
  | none => none
theorem bAny (hc : X.calm = true) : BRul X (.builtin "any") (g1 fAny) := b1i (cr_any hc) fun A S H x v d Q wf r h p => by
  unfold fAny at h
  split at h
  · rename_i ds hds
    obtain ⟨ns, hn, e⟩ := Option.map_eq_some_iff.mp h
    subst e
    obtain ⟨a, xs, rfl, h1, h2⟩ := asR_ok wf r hds
    rw [bolsOf_ok hn] at h2
    have e := h2.bls
    subst e
    exact ⟨a, ns, rfl, h1, p _ H .refl wf (.bl _)⟩
  · cases h
def topL : List Int → Option Int
  | [] => none
  | n :: ns => some (ns.foldl max n)
def lowL : List Int → Option Int
  | [] => none
  | n :: ns => some (ns.foldl min n)
theorem foldl_max : ∀ (ns : List Int) (n : Int), (ns.foldl max n = n ∨ ns.foldl max n ∈ ns) ∧ n ≤ ns.foldl max n ∧ ∀ y ∈ ns, y ≤ ns.foldl max n
  | [], n => ⟨.inl rfl, Int.le_refl _, by simp⟩
  | m :: ns, n => by
    obtain ⟨h1, h2, h3⟩ := foldl_max ns (max n m)
    rw [List.foldl_cons]
    refine ⟨?_, by omega, fun y hy => ?_⟩
    · rcases h1 with h1 | h1
      · rw [h1]
        by_cases c : n ≤ m
        · exact .inr (by rw [Int.max_eq_right c]; simp)
        · exact .inl (Int.max_eq_left (by omega))
      · exact .inr (List.mem_cons_of_mem _ h1)
    · rcases List.mem_cons.mp hy with rfl | hy
      · omega
      · exact h3 y hy
theorem foldl_min : ∀ (ns : List Int) (n : Int), (ns.foldl min n = n ∨ ns.foldl min n ∈ ns) ∧ ns.foldl min n ≤ n ∧ ∀ y ∈ ns, ns.foldl min n ≤ y
  | [], n => ⟨.inl rfl, Int.le_refl _, by simp⟩
  | m :: ns, n => by
    obtain ⟨h1, h2, h3⟩ := foldl_min ns (min n m)
    rw [List.foldl_cons]
    refine ⟨?_, by omega, fun y hy => ?_⟩
    · rcases h1 with h1 | h1
      · rw [h1]
        by_cases c : m ≤ n
        · exact .inr (by rw [Int.min_eq_right c]; simp)
        · exact .inl (Int.min_eq_left (by omega))
      · exact .inr (List.mem_cons_of_mem _ h1)
    · rcases List.mem_cons.mp hy with rfl | hy
      · omega
      · exact h3 y hy
theorem topL_ok {ns : List Int} {t : Int} (h : topL ns = some t) : t ∈ ns ∧ ∀ y ∈ ns, y ≤ t := by
  cases ns with
  | nil => cases h
  | cons n ns =>
    cases h
    obtain ⟨h1, h2, h3⟩ := foldl_max ns n
    refine ⟨?_, fun y hy => ?_⟩
    · rcases h1 with h1 | h1
      · rw [h1]; simp
      · exact List.mem_cons_of_mem _ h1
    · rcases List.mem_cons.mp hy with rfl | hy
      · exact h2
      · exact h3 y hy
theorem lowL_ok {ns : List Int} {t : Int} (h : lowL ns = some t) : t ∈ ns ∧ ∀ y ∈ ns, t ≤ y := by
  cases ns with
  | nil => cases h
  | cons n ns =>
    cases h
    obtain ⟨h1, h2, h3⟩ := foldl_min ns n
    refine ⟨?_, fun y hy => ?_⟩
    · rcases h1 with h1 | h1
      · rw [h1]; simp
      · exact List.mem_cons_of_mem _ h1
    · rcases List.mem_cons.mp hy with rfl | hy
      · exact h2
      · exact h3 y hy
/-! min, max of data -/
def allAlike (ds : List PyData) : Bool := ds.all fun x => nn x && SeqAt.shaped x && ds.all (PySem.W.alike x)
theorem allAlike_ok {ds : List PyData} (h : allAlike ds = true) : PySem.W.AlikeAll ds ∧ (∀ d ∈ ds, SeqAt.shaped d = true) := by
  have g : ∀ x ∈ ds, (nn x = true ∧ SeqAt.shaped x = true) ∧ ∀ y ∈ ds, PySem.W.alike x y = true := fun x hx => by
    have := List.all_eq_true.mp h x hx
    rw [Bool.and_eq_true, Bool.and_eq_true] at this
    exact ⟨this.1, List.all_eq_true.mp this.2⟩
  exact ⟨⟨fun x hx y hy => (g x hx).2 y hy, fun x hx e => by have := (g x hx).1.1; rw [e] at this; cases this⟩, fun d hd => (g d hd).1.2⟩
theorem shaped_layAll {ds : List PyData} (h : ∀ d ∈ ds, SeqAt.shaped d = true) : PyData.canLayAll0 ds = true := by
  induction ds with
  | nil => rfl
  | cons d ds ih =>
    unfold PyData.canLayAll0
    rw [SeqAt.canLay_of_shaped (h d (by simp)), ih fun e he => h e (List.mem_cons_of_mem _ he)]; rfl
theorem shaped_depAll {ds : List PyData} (h : ∀ d ∈ ds, SeqAt.shaped d = true) : PyData.depthAll ds ≤ 64 := by
  induction ds with
  | nil => simp [PyData.depthAll]
  | cons d ds ih =>
    rw [PyData.depthAll]
    have h1 := SeqAt.depth_of_shaped (h d (by simp))
    have h2 := ih fun e he => h e (List.mem_cons_of_mem _ he)
    omega
theorem minD_in (x : PyData) (xs : List PyData) : PySem.W.minD x xs ∈ x :: xs := by
  unfold PySem.W.minD
  induction xs generalizing x with
  | nil => simp
  | cons y ys ih =>
    rw [List.foldl_cons]
    have := ih (if PySem.W.dataLt y x then y else x)
    rcases List.mem_cons.mp this with e | e
    · rw [e]
      split <;> simp
    · simp [e]
theorem maxD_in (x : PyData) (xs : List PyData) : PySem.W.maxD x xs ∈ x :: xs := by
  unfold PySem.W.maxD
  induction xs generalizing x with
  | nil => simp
  | cons y ys ih =>
    rw [List.foldl_cons]
    have := ih (if PySem.W.dataLt x y then y else x)
    rcases List.mem_cons.mp this with e | e
    · rw [e]
      split <;> simp
    · simp [e]
/-- an item of a row that reads as d: the abstract one -/
theorem item_rp {pins : List (Addr × Obj)} {s : Shared} {σ : L2.St} {L : List Addr} {xs : List V} {its : List Value} {ds : List PyData} {i : Nat} {v : Value} {d : PyData} {h' : Heap} {bs : List Addr} (I : Inv X pins σ H s) (r : RpL X.K L H xs ds) (rv : Vals xs its) (sh : ∀ d ∈ ds, SeqAt.shaped d = true)
    (hal : PySem.W.AlikeAll ds) (hd : d ∈ ds) (hv : its[i]? = some v) (hr : Reads h' v d bs) (hk : ∀ b o, s.heap.get? b = some o → h'.get? b = some o) : ∃ x, RelV x v ∧ Rp X.K L H x d := by
  obtain ⟨x, hx, rx⟩ : ∃ x, xs[i]? = some x ∧ RelV x v := by
    have hi : i < xs.length := by rw [rv.length]; exact (List.getElem?_eq_some_iff.mp hv).1
    obtain ⟨u, hu, ru⟩ := rv.get (List.getElem?_eq_getElem hi)
    rw [hv] at hu
    cases hu
    exact ⟨_, List.getElem?_eq_getElem hi, ru⟩
  obtain ⟨e, he, re⟩ := r.getV hx
  have me : e ∈ ds := List.mem_of_getElem? he
  obtain ⟨as, ra⟩ := Dp.reads I e x v (Rp.dp _ _ (SeqAt.canLay_of_shaped (sh e me)) re) rx
  have e2 : e = d := PySem.W.alike_unique _ _ _ _ _ (hal.1 e me d hd) (PyProof.Rows.Reads.keeps hk ra) hr
  exact ⟨x, rx, e2 ▸ re⟩
def minDat (ds : List PyData) (S : Sto) : Res Val := match ds with
  | x :: xs => if allAlike (x :: xs) = true then .ok (.d (PySem.W.minD x xs)) S else .no
  | [] => .no
def maxDat (ds : List PyData) (S : Sto) : Res Val := match ds with
  | x :: xs => if allAlike (x :: xs) = true then .ok (.d (PySem.W.maxD x xs)) S else .no
  | [] => .no
theorem min_dat (hc : X.calm = true) (hu : X.A.units + 100 < cLine) {pins : List (Addr × Obj)} {s : Shared} {σ : L2.St} {v : Val} {x : V} {u : Value} {t : Bool} {ds : List PyData} {g : List (Nat × List PyData)} (I : Inv X pins σ H s) (wf : Wf X.K A S H) (r : Rv X.K A H x v) (ru : RelV x u) (hv : seqOf S v = some (t, ds, g))
    (p : Post X.K A H Q (minDat ds S)) : wpAny (model X.prog X.w) X.A (call (.builtin "min") [u]) (EP X pins σ Q) X.xe s := by
  cases ds with
  | nil => exact p.elim
  | cons y ys =>
    unfold minDat at p
    dsimp only at p
    split at p
    case isFalse => exact p.elim
    rename_i hal
    obtain ⟨al, sh⟩ := allAlike_ok hal
    obtain ⟨a, xs, rfl, h1, h2⟩ := seq_at hv wf r
    cases ru
    have hdp := shaped_depAll sh
    have lay := shaped_layAll sh
    cases t with
    | true =>
      obtain ⟨its, rv, ht, hz⟩ := I.tuple (show SqT X.K H a xs from h2)
      obtain ⟨as, rd⟩ := Dp.readsAll I (y :: ys) xs its (RpL.dp _ _ lay h1) rv
      refine PySem.W.min_tuple_data (I.ok.hd hc) (show s.heap.IsTuple a its.toArray from ht) (by simpa using rd) al (by omega) fun i v h' tk bs hv hr hk => ?_
      obtain ⟨z, rz, rp⟩ := item_rp I h1 rv sh al (minD_in y ys) (by simpa using hv) hr hk
      exact ⟨z, H, I.kept (t' := tk) hk, rz, p z H .refl wf rp⟩
    | false =>
      obtain ⟨its, rv, pl, hz⟩ := I.list (show SqL X.K H a xs from h2)
      obtain ⟨as, rd⟩ := Dp.readsAll I (y :: ys) xs its (RpL.dp _ _ lay h1) rv
      refine PySem.W.min_list_data (I.ok.hd hc) pl.isList (by simpa using rd) al (by omega) fun i v h' tk bs hv hr hk => ?_
      obtain ⟨z, rz, rp⟩ := item_rp I h1 rv sh al (minD_in y ys) (by simpa using hv) hr hk
      exact ⟨z, H, I.kept (t' := tk) hk, rz, p z H .refl wf rp⟩
theorem max_dat (hc : X.calm = true) (hu : X.A.units + 100 < cLine) {pins : List (Addr × Obj)} {s : Shared} {σ : L2.St} {v : Val} {x : V} {u : Value} {t : Bool} {ds : List PyData} {g : List (Nat × List PyData)} (I : Inv X pins σ H s) (wf : Wf X.K A S H) (r : Rv X.K A H x v) (ru : RelV x u) (hv : seqOf S v = some (t, ds, g))
    (p : Post X.K A H Q (maxDat ds S)) : wpAny (model X.prog X.w) X.A (call (.builtin "max") [u]) (EP X pins σ Q) X.xe s := by
  cases ds with
  | nil => exact p.elim
  | cons y ys =>
    unfold maxDat at p
    dsimp only at p
    split at p
    case isFalse => exact p.elim
    rename_i hal
    obtain ⟨al, sh⟩ := allAlike_ok hal
    obtain ⟨a, xs, rfl, h1, h2⟩ := seq_at hv wf r
    cases ru
    have hdp := shaped_depAll sh
    have lay := shaped_layAll sh
    cases t with
    | true =>
      obtain ⟨its, rv, ht, hz⟩ := I.tuple (show SqT X.K H a xs from h2)
      obtain ⟨as, rd⟩ := Dp.readsAll I (y :: ys) xs its (RpL.dp _ _ lay h1) rv
      refine PySem.W.max_tuple_data (I.ok.hd hc) (show s.heap.IsTuple a its.toArray from ht) (by simpa using rd) al (by omega) fun i v h' tk bs hv hr hk => ?_
      obtain ⟨z, rz, rp⟩ := item_rp I h1 rv sh al (maxD_in y ys) (by simpa using hv) hr hk
      exact ⟨z, H, I.kept (t' := tk) hk, rz, p z H .refl wf rp⟩
    | false =>
      obtain ⟨its, rv, pl, hz⟩ := I.list (show SqL X.K H a xs from h2)
      obtain ⟨as, rd⟩ := Dp.readsAll I (y :: ys) xs its (RpL.dp _ _ lay h1) rv
      refine PySem.W.max_list_data (I.ok.hd hc) pl.isList (by simpa using rd) al (by omega) fun i v h' tk bs hv hr hk => ?_
      obtain ⟨z, rz, rp⟩ := item_rp I h1 rv sh al (maxD_in y ys) (by simpa using hv) hr hk
      exact ⟨z, H, I.kept (t' := tk) hk, rz, p z H .refl wf rp⟩
def gMax : List Val → Sto → Res Val
  | [.d (.int i), .d (.int j)], S => .ok (.d (.int (if j > i then j else i))) S
  | [v], S => match (asR S v).bind intsOf with
    | some ns => match topL ns with
      | some t => .ok (.d (.int t)) S
      | none => .no
    | none => match seqOf S v with
      | some q => maxDat q.2.1 S
      | none => .no
  | _, _ => .no
theorem bMax (hc : X.calm = true) (hu : X.A.units + 100 < cLine) : BRul X (.builtin "max") gMax := by
  intro pins s σ A S H xs us vs Q I wf rvs rus p
  unfold gMax at p
  split at p
  · cases rvs with | cons r1 r2 => cases r2 with | cons r2 r3 => cases r3; exact call_max2 hc pins s σ H _ us Q I rus ⟨_, _, by rw [Rp.int_inv r1, Rp.int_inv r2], p _ H .refl wf (.int _)⟩
  · split at p
    · rename_i ns hns
      split at p
      · rename_i t ht
        cases rvs with | cons r1 r2 =>
          cases r2
          obtain ⟨ds, h1, h2⟩ := Option.bind_eq_some_iff.mp hns
          obtain ⟨a, ys, rfl, h3, h4⟩ := asR_ok wf r1 h1
          rw [intsOf_ok h2] at h4
          have e := h4.ints
          subst e
          obtain ⟨t1, t2⟩ := topL_ok ht
          refine cr_max hc pins s σ H _ us Q I rus ⟨a, ns, rfl, h3, List.length_pos_of_mem t1, fun m h5 h6 => ?_⟩
          have e : m = t := Int.le_antisymm (t2 m h5) (h6 t t1)
          rw [e]
          exact p _ H .refl wf (.int _)
      · exact p.elim
    · split at p
      · rename_i q hq
        cases rvs with | cons r1 r2 =>
        cases r2
        obtain ⟨u, rfl, ru⟩ := vals1 rus
        exact max_dat hc hu (t := q.1) (g := q.2.2) I wf r1 ru hq p
      · exact p.elim
  · exact p.elim
def gMin : List Val → Sto → Res Val
  | [.d (.int i), .d (.int j)], S => .ok (.d (.int (if j < i then j else i))) S
  | [v], S => match (asR S v).bind intsOf with
    | some ns => match lowL ns with
      | some t => .ok (.d (.int t)) S
      | none => .no
    | none => match seqOf S v with
      | some q => minDat q.2.1 S
      | none => .no
  | _, _ => .no
theorem bMin (hc : X.calm = true) (hu : X.A.units + 100 < cLine) : BRul X (.builtin "min") gMin := by
  intro pins s σ A S H xs us vs Q I wf rvs rus p
  unfold gMin at p
  split at p
  · cases rvs with | cons r1 r2 => cases r2 with | cons r2 r3 => cases r3; exact call_min2 hc pins s σ H _ us Q I rus ⟨_, _, by rw [Rp.int_inv r1, Rp.int_inv r2], p _ H .refl wf (.int _)⟩
  · split at p
    · rename_i ns hns
      split at p
      · rename_i t ht
        cases rvs with | cons r1 r2 =>
          cases r2
          obtain ⟨ds, h1, h2⟩ := Option.bind_eq_some_iff.mp hns
          obtain ⟨a, ys, rfl, h3, h4⟩ := asR_ok wf r1 h1
          rw [intsOf_ok h2] at h4
          have e := h4.ints
          subst e
          obtain ⟨t1, t2⟩ := lowL_ok ht
          refine cr_min hc pins s σ H _ us Q I rus ⟨a, ns, rfl, h3, List.length_pos_of_mem t1, fun m h5 h6 => ?_⟩
          have e : m = t := Int.le_antisymm (h6 t t1) (t2 m h5)
          rw [e]
          exact p _ H .refl wf (.int _)
      · exact p.elim
    · split at p
      · rename_i q hq
        cases rvs with | cons r1 r2 =>
        cases r2
        obtain ⟨u, rfl, ru⟩ := vals1 rus
        exact min_dat hc hu (t := q.1) (g := q.2.2) I wf r1 ru hq p
      · exact p.elim
  · exact p.elim
end
end MV
set_option Elab.async false
set_option linter.all false
set_option maxRecDepth 100000
set_option maxHeartbeats 1000000
/-! Readings by mirrors: sorted, isinstance, zip, enumerate. -/
namespace MV
open PySem PySem.Spec PyProof.Rows L2
/-! ### sorted -/
mutual
theorem reads_there {h : Heap} : ∀ {v : Value} {d : PyData} {as : List Addr}, Reads h v d as → ∀ b ∈ as, ∃ o, h.get? b = some o
  | _, _, _, .none, b, hb => by cases hb
  | _, _, _, .bool _, b, hb => by cases hb
  | _, _, _, .int _ _, b, hb => by cases hb
  | _, _, _, .str _ _, b, hb => by cases hb
  | _, _, _, .list h1 _ _ t, b, hb => by
    rcases List.mem_cons.mp hb with rfl | hb
    · exact ⟨_, h1⟩
    · exact readsAll_there t b hb
  | _, _, _, .tuple h1 _ _ t, b, hb => readsAll_there t b hb
  | _, _, _, .dict h1 _ _ t t', b, hb => by
    rcases List.mem_append.mp hb with hb | hb
    · rcases List.mem_cons.mp hb with rfl | hb
      · exact ⟨_, h1⟩
      · exact readsAll_there t b hb
    · exact readsAll_there t' b hb
theorem readsAll_there {h : Heap} : ∀ {v : List Value} {d : List PyData} {as : List Addr}, ReadsAll h v d as → ∀ b ∈ as, ∃ o, h.get? b = some o
  | _, _, _, .nil, b, hb => by cases hb
  | _, _, _, .cons t t', b, hb => by
    rcases List.mem_append.mp hb with hb | hb
    · exact reads_there t b hb
    · exact readsAll_there t' b hb
end
def sortOk (ds : List PyData) : Prop := PySem.W.AllAlike ds ∧ PySem.W.Sortable ds ∧ ds.length ≤ sizeLine ∧ ∀ d ∈ ds, SeqAt.shaped d = true
def sortD (ds : List PyData) : List PyData := ds.mergeSort (PySem.W.dataLe false id)
open Classical in
noncomputable def gSorted : List Val → Sto → Res Val
  | [v], S => match seqOf S v with
    | some q => if sortOk q.2.1 then .ok (.f (.lst (sortD q.2.1))) S else .no
    | none => .no
  | _, _ => .no
section
variable {X : Cx} {K : Frg} {a b : Expr} {fa fb : Sx} {pos : Pos} {A A' A2 : Wd} {H H' H2 : Hp} {S S' : Sto} {Q : VK} {ρ : Envi} {σ : L2.St} {D : Ends}
theorem rpl_each : ∀ {xs : List V} {us : List Value} {ds : List PyData}, RpL K A.V H xs ds → Vals xs us → PySem.W.EachIs (fun u d => ∃ x, RelV x u ∧ Rp K A.V H x d) us ds
  | _, _, _, .nil, .nil => .nil
  | _, _, _, .cons r t, .cons q p => .cons ⟨_, q, r⟩ (rpl_each t p)
theorem each_rpl : ∀ {us : List Value} {ds : List PyData}, PySem.W.EachIs (fun u d => ∃ x, RelV x u ∧ Rp K A.V H x d) us ds → ∃ xs, RpL K A.V H xs ds ∧ Vals xs us
  | _, _, .nil => ⟨[], .nil, .nil⟩
  | _, _, .cons ⟨x, q, r⟩ t => by
    obtain ⟨xs, h1, h2⟩ := each_rpl t
    exact ⟨x :: xs, .cons r h1, .cons q h2⟩
theorem shaped_lay {ds : List PyData} (h : ∀ d ∈ ds, SeqAt.shaped d = true) : PyData.canLayAll0 ds = true := by
  induction ds with
  | nil => rfl
  | cons d ds ih =>
    unfold PyData.canLayAll0
    rw [SeqAt.canLay_of_shaped (h d (by simp)), ih fun e he => h e (List.mem_cons_of_mem _ he)]; rfl
theorem each_reads {h : Heap} : ∀ {us : List Value} {ds : List PyData} {as : List Addr}, ReadsAll h us ds as → PySem.W.EachIs (fun u d => ∃ as, Reads h u d as) us ds
  | _, _, _, .nil => .nil
  | _, _, _, .cons r t => .cons ⟨_, r⟩ (each_reads t)
theorem bSorted (hu : X.A.units + 100 < cLine) : BRul X (.builtin "sorted") gSorted := by
  intro pins s σ A S H xs us vs Q I wf rvs rus p
  unfold gSorted at p
  split at p
  case h_2 => exact p.elim
  rename_i v _
  cases rvs with | cons r1 r2 =>
  cases r2
  split at p
  case h_2 => exact p.elim
  rename_i q hq
  split at p
  case isFalse => exact p.elim
  rename_i ok
  obtain ⟨al, so, hl, sh⟩ := ok
  obtain ⟨a, ys, rfl, h1, h2⟩ := seq_at (t := q.1) (ds := q.2.1) (g := q.2.2) hq wf r1
  obtain ⟨u, rfl, ru⟩ := vals1 rus
  cases ru
  generalize q.2.1 = ds at *
  have key : ∃ its o n T, (T = "list" ∨ T = "tuple") ∧ Vals ys its ∧ s.heap.get? a = some o ∧ o.cls = .type T ∧ o.data = .seq its.toArray n := by
    cases ht : q.1 with
    | true =>
      rw [ht] at h2
      obtain ⟨its, rv, ⟨o, e1, e2, n, e3⟩, _⟩ := I.tuple (show SqT X.K H a ys from h2)
      exact ⟨its, o, n, "tuple", .inr rfl, rv, e1, e2, e3⟩
    | false =>
      rw [ht] at h2
      obtain ⟨its, rv, ⟨o, n, e1, e2, _, e3⟩, _⟩ := I.list (show SqL X.K H a ys from h2)
      exact ⟨its, o, n, "list", .inl rfl, rv, e1, e2, e3⟩
  obtain ⟨its, o, n, T, hT, rv, e1, e2, e3⟩ := key
  have hlen : its.length = ds.length := by rw [← rv.length, h1.length]
  refine Calls.call_function_entry kind_sorted plain_sorted entry_sorted (args_sorted1 _) ?_
  unfold Builtin.«sorted»
  refine wpAny_bind (m := checkCount "sorted" 1 1 _) (wpAny_pure ?_)
  refine wpAny_bind (wpAny_collect_seq a hT e1 e2 e3 (fun h' hk => ?_) (by rw [List.size_toArray, hlen]; exact hl))
  refine wpAny_bind (wpAny_newList ?_ (by show its.length ≤ _; rw [hlen]; exact hl))
  have I1 : Inv X pins σ H { s with heap := h' } := I.kept (t' := s.toks) hk
  obtain ⟨as, rd⟩ := Dp.readsAll I1 ds ys its (RpL.dp ds ys (shaped_lay sh) h1) rv
  generalize hL : h'.objs.size = L
  have hnone : h'.get? L = none := Heap.get?_none_of_le (by rw [← hL]; exact Nat.le_refl _)
  have hkeep : ∀ b o, h'.get? b = some o → (h'.push { cls := .type "list", data := .seq its.toArray }).get? b = some o := fun b o e => Heap.get?_push_of_some _ e
  have hobj : (h'.push { cls := .type "list", data := .seq its.toArray }).get? L = some (seqObj "list" its.toArray 0) := by rw [← hL]; exact Heap.get?_push_size _ rfl
  refine wpAny_bind (wpAny_holding ?_)
  refine PySem.W.list_sort_data (vs := its) (bs := ds) (enc := id) (R := fun u d => ∃ x, RelV x u ∧ Rp X.K A.V H x d) (n := 0) hobj (rpl_each h1 rv) ?_ (by simpa using al) (by simpa using so) hl ?_ fun out ho eo => ?_
  · have z := each_reads rd
    have z2 : ∀ {us : List Value} {ds : List PyData}, PySem.W.EachIs (fun u d => ∃ as, Reads h' u d as) us ds → PySem.W.EachIs (fun v b => ∃ as, Reads (h'.push { cls := .type "list", data := .seq its.toArray }) v (id b) as ∧ L ∉ as) us ds := fun z => z.mono fun u d ⟨as, r⟩ => ⟨as, PyProof.Rows.Reads.keeps hkeep r, fun m => by
      obtain ⟨o, e⟩ := reads_there r L m
      rw [hnone] at e; cases e⟩
    exact z2 z
  · intro d hd
    have h64 := SeqAt.depth_of_shaped (sh d hd)
    show X.A.in1.units + 1 + d.depth < cLine
    have : X.A.in1.units = X.A.units + 1 := rfl
    omega
  · obtain ⟨zs, r3, r4⟩ := each_rpl eo
    obtain ⟨ep, he⟩ := sortedHeap_at (h := h'.push { cls := .type "list", data := .seq its.toArray }) (vs := its) (n := 0) (out := out.toArray) hobj
    refine wpAny_pure ⟨_, rfl, ?_⟩
    have kk : ∀ b u, h'.get? b = some u → (sortedHeap (h'.push { cls := .type "list", data := .seq its.toArray }) L its out.toArray).get? b = some u := fun b u e' => by
      have hlt := Heap.lt_size e'
      rw [sortedHeap_old (by rw [← hL]; exact Nat.ne_of_lt hlt) (by rw [Heap.size_push]; exact Nat.lt_succ_of_lt hlt)]
      exact hkeep b u e'
    have hp : H L = none := I1.hok.fresh (Nat.le_of_eq hL)
    refine ⟨.ref L, upd H L (.lst zs), I1.laid (t' := s.toks) kk (Nat.le_of_eq hL) ⟨?_, out, ep, r4, he⟩, rfl, p.fresh wf hp r3⟩
    rw [r4.length, ho]; exact hl

/-! ### isinstance -/
def kind (S : Sto) : Val → Option String
  | .d .none => some "NoneType"
  | .d (.bool _) => some "bool"
  | .d (.int _) => some "int"
  | .d (.str _) => some "str"
  | .d (.list _) => some "list"
  | .d (.tuple _) => some "tuple"
  | .d (.dict _) => some "dict"
  | .z _ => some "list"
  | .c n => match S[n]? with
    | some (.lst _) => some "list"
    | some (.dic _) => some "dict"
    | some (.rcd _) => some "dict"
    | some (.nls _) => some "list"
    | _ => none
  | _ => none
theorem kind_ok {x : V} {v : Val} {t : String} (w : Wf K A S H) (r : Rv K A H x v) (h : kind S v = some t) : TyX K H x (.type t) := by
  cases v with
  | f k => cases h
  | g cs i => cases h
  | x => cases h
  | t its => cases h
  | o nm => cases h
  | z ds =>
    cases h
    obtain ⟨a, xs, rfl, h1, _⟩ := r
    rcases h1 with ⟨h1 | ⟨o, h1⟩, _⟩ | (h1 | ⟨o, h1⟩) | ⟨o, its, n, h1, h2, _⟩
    · exact .base (.lst h1)
    · exact .base (.frz h1)
    · cases h1
    · cases h1
    · exact .kList h1 h2
  | c n =>
    obtain ⟨a, ha, rfl⟩ := r
    have h : (match S[n]? with
      | some (.lst _) => some "list"
      | some (.dic _) => some "dict"
      | some (.rcd _) => some "dict"
      | some (.nls _) => some "list"
      | _ => none) = some t := h
    split at h
    · rename_i ds q
      cases h
      obtain ⟨xs, h2, _⟩ := w.ok n a _ ha q
      exact .base (.lst h2)
    · rename_i ds q
      cases h
      obtain ⟨xs, h2, _⟩ := w.ok n a _ ha q
      exact .base (.dK h2)
    · rename_i ds q
      cases h
      obtain ⟨xs, h2, _⟩ := w.ok n a _ ha q
      exact .base (.dK h2)
    · rename_i ds q
      cases h
      obtain ⟨xs, h2, _⟩ := w.ok n a _ ha q
      exact .base (.lst h2)
    · cases h
  | d y =>
    have r : Rp K A.V H x y := r
    cases r with
    | non => cases h; exact .base .non
    | bl b => cases h; exact .base (.bl b)
    | int b => cases h; exact .base (.int b)
    | str b => cases h; exact .base (.str b)
    | lst l t => cases h; exact .base (.lst l.1)
    | dic l n t =>
      cases h
      rcases l with l | ⟨o, l⟩
      · exact .base (.dK l)
      · exact .fDict l
    | tup l t =>
      cases h
      rcases l with ⟨⟨its, h1⟩, _⟩ | ⟨o, its, n, h1, h2, _⟩
      · exact .fTuple h1
      · exact .kTuple h1 h2
def isOf (T t : String) : Bool := t == T || (t == "bool" && T == "int")
def kinds6 : List String := ["NoneType", "bool", "int", "str", "list", "tuple", "dict"]
theorem kits : (kinds6.all fun t => (["bool", "int", "str", "list", "tuple", "dict"] : List String).all fun T => decide (kitB t T = some (isOf T t))) = true := by decide +kernel
theorem kind_in {v : Val} {t : String} (h : kind S v = some t) : t ∈ kinds6 := by
  unfold kind at h
  split at h <;> first | (cases h; simp [kinds6]; done) | skip
  · split at h <;> first | (cases h; simp [kinds6]; done) | (cases h; done)
  · cases h
theorem kit_at {t T : String} (h : t ∈ kinds6) (hT : T ∈ (["bool", "int", "str", "list", "tuple", "dict"] : List String)) : kitB t T = some (isOf T t) :=
  of_decide_eq_true (List.all_eq_true.mp (List.all_eq_true.mp kits t h) T hT)
def evIsi (T : String) (f : Sx) : Sx := fun ρ S => (f ρ S).bind fun v S1 => match kind S1 v.th with
  | some t => .ok (.d (.bool (isOf T t))) S1
  | none => .no
theorem eIsi {x : Str} {p p2 : Pos} {T : String} (hT : T ∈ (["bool", "int", "str", "list", "tuple", "dict"] : List String)) (hg : Gl X "isinstance") (hm : X.mg "isinstance" = none) (hg2 : Gl X x) (hm2 : X.mg x = none) (hv2 : bootBuiltins x = some (.type T)) (ha : PE X a (tE X.K fa))
    (hn2 : x ≠ "__name__" := by decide) (hd2 : (x == ("__debug__" : Str)) = false := by decide)
    (he : starEach [a, .Name x p2] X.env = (false, eval a X.env) :: starEach [.Name x p2] X.env := by rfl) (he2 : starEach [.Name x p2] X.env = (false, eval (.Name x p2) X.env) :: starEach [] X.env := by rfl) (hpl : (backTo pos (starEach [.Name x p2] X.env)).any (·.1) = false := by rfl) :
    PE X (.Call (.Name "isinstance" p) [a, .Name x p2] [] pos) (tE X.K (evIsi T fa)) :=
  PEi (pe_callB call_isi hg hm (by decide +kernel) (pa_cons ha (pa_cons (pe_bltn (v := .ty T) hg2 hm2 hv2 rfl hn2 hd2) pa_nil he2) he) (by decide) (by decide) he hpl) fun σ H Q ⟨A, S, ρ, w, env, p⟩ =>
  at_seq (P := Post X.K A H Q) w env p (fun h => h) (fun _ _ h => h) fun v S1 y H1 e1 w1 r1 p1 => by
    split at p1
    · rename_i t ht
      exact ⟨y, .ty T, .type t, .type T, isOf T t, rfl, .ty T, kind_ok w1 r1 ht, kit_ty (kit_at (kind_in ht) hT), p1 _ H1 e1 w1 (.bl _)⟩
    · exact p1.elim

/-! ### zip -/
def zipD (ds es : List PyData) : List PyData := (ds.zip es).map fun p => .tuple [p.1, p.2]
def gZip (S : Sto) : List Val → Option Src
  | [v, w] => match seqOf S v, seqOf S w with
    | some q, some r => some ⟨zipD q.2.1 r.2.1, q.2.2 ++ r.2.2⟩
    | _, _ => none
  | _ => none
theorem zipD_length (ds es : List PyData) : (zipD ds es).length = min ds.length es.length := by simp [zipD]
theorem zipD_get {ds es : List PyData} {i : Nat} {d e : PyData} (h1 : ds[i]? = some d) (h2 : es[i]? = some e) : (zipD ds es)[i]? = some (.tuple [d, e]) := by
  simp [zipD, List.zip, List.getElem?_zipWith, h1, h2]
theorem pair_new {x y : V} {d e : PyData} {T : Addr} {its : List Value} (w : Wf K A S H) (hT : H T = none) (r1 : Rp K A.V H x d) (r2 : Rp K A.V H y e) : Ext A H A (upd H T (tupO its [x, y])) ∧ Wf K A S (upd H T (tupO its [x, y])) ∧ Rp K A.V (upd H T (tupO its [x, y])) (.ref T) (.tuple [d, e]) :=
  ⟨.laid hT, w.laid hT, .tup (.inl ⟨⟨its, upd_same⟩, w.off hT⟩) (.cons (r1.mono (Ext.laid hT).kp) (.cons (r2.mono (Ext.laid hT).kp) .nil))⟩
def iByS (g : Sto → List Val → Option Src) (f : SA) : SI := fun ρ S => (f ρ S).bind fun vs S1 => match g S1 vs with
  | some s => .ok s S1
  | none => .no
end
end MV
set_option Elab.async false
set_option linter.all false
set_option maxRecDepth 100000
/-! Readings by mirrors: defs of the text, the end of a law. -/
namespace MV
open PySem PySem.Spec PyProof.Rows L2
/-- the name x calls a def that keeps the mirror m, by at most level k -/
structure Cal (P : Program) (w : World) (K : Frg) (mg : Str → Option Value) (base : Heap) (k : Nat) (x : Str) (m : Fn) : Prop where
  ex : ∃ (f : Addr) (fd : FuncData) (ps : List Str), FnG P w K mg base k f fd ps (spF K m) ∧ mg x = some (.ref f) ∧ PySem.W.keepIn K (.ref f) = true ∧ Binds K fd ps []
theorem hu_room {k : Nat} {A : Around} (hr : Room k A) : A.units + 100 < cLine := by have := hr.un; omega
section
variable {X : Cx} {K : Frg} {pos : Pos} {x : Str} {p : Pos} {e : Expr} {es : List Expr} {f : SA} {k j : Nat} {m : Fn}
theorem eCal (C : Cal X.prog X.w X.K X.mg X.base k x m) (hr : Room j X.A) (gd : X.A.guards = some []) (hk : k ≤ j) (hg : Gl X x) (ha : PA X (e :: es) (tAr X.K f)) (hdb : (x == ("__debug__" : Str)) = false := by decide)
    (he : starEach (e :: es) X.env = (false, eval e X.env) :: starEach es X.env := by rfl) (hpl : (backTo pos (starEach es X.env)).any (·.1) = false := by rfl) : PE X (.Call (.Name x p) (e :: es) [] pos) (tE X.K (evCall m f)) := by
  obtain ⟨fa, fd, ps, F, hm, hkp, hb⟩ := C.ex
  exact eF F (hr.mono hk) gd hg hm hkp hb ha hdb he hpl
theorem eCal0 (C : Cal X.prog X.w X.K X.mg X.base k x m) (hr : Room j X.A) (gd : X.A.guards = some []) (hk : k ≤ j) (hg : Gl X x) (hdb : (x == ("__debug__" : Str)) = false := by decide) : PE X (.Call (.Name x p) [] [] pos) (tE X.K (evCall m aNil)) := by
  obtain ⟨fa, fd, ps, F, hm, hkp, hb⟩ := C.ex
  exact eF0 F (hr.mono hk) gd hg hm hkp hb hdb
end
section
variable {P : Program} {w : World} {K : Frg} {mg : Str → Option Value} {base : Heap} {x qual : Str} {st : Stmt} {fa : Addr} {fd : FuncData} {N ps : List Str} {k np : Nat} {body : Ss}
theorem cal_mk (F : Fun K x qual st fa fd) (S : FnScope N ps (defScope st)) (hnp : ps.length = np) (hm : mg x = some (.ref fa)) (hb : Binds K fd ps [])
    (h : ∀ (cdv : Value) (A : Around) (outer : List PySem.Env) (s : Shared) (H : Hp) (E : XK), Room k (A.deeper (envOfC qual (defScope st) s.heap.objs.size fa cdv)) → A.guards = some [] → PSs (cxOf CX0 P w K mg base N qual (defScope st) fa cdv A outer s H E).nox (defBody st) (tS K body)) :
    Cal P w K mg base (k + 1) x (mkFn np N.length body) := ⟨fa, fd, ps, fn_ok F S hnp h, hm, F.kp, hb⟩
/-- no mirror at all: the base of a recursion -/
theorem cal_no (F : Fun K x qual st fa fd) (hm : mg x = some (.ref fa)) (hb : Binds K fd ps []) : Cal P w K mg base k x (fun _ _ => .no) := ⟨fa, fd, ps, ⟨fun _ _ _ _ h => by
  obtain ⟨_, _, _, _, _, h⟩ := h; exact h.elim, fun _ _ _ _ _ _ _ _ _ _ _ _ _ _ h => by
  obtain ⟨_, _, _, _, _, h⟩ := h; exact h.elim⟩, hm, F.kp, hb⟩
/-- the law's own promise, from its mirror at the script -/
theorem law_sp {m : Fn} {n : Nat} (h : ∀ ns : List Int, ns.length ≤ n → ∃ S, m [.z (ns.map .int)] [] = .ok (.d (.bool true)) S) (H : Hp) (a : Addr) (ns : List Int) (hl : ns.length ≤ n) (hO : Only H) (hS : SqL K H a (ns.map V.int)) :
    spF K m [.ref a] H (fun v _ => v = .bl true) fun _ _ _ => False := by
  obtain ⟨S, e⟩ := h ns hl
  have w0 : Wf K ⟨[], []⟩ [] H := ⟨rfl, .nil, fun n k h1 => by simp at h1, fun n a k h1 => by simp at h1, fun p hp => by cases hp⟩
  refine ⟨⟨[], []⟩, [], [.z (ns.map .int)], w0, .cons ⟨a, ns.map V.int, rfl, ?_, RpL.of_ints ns⟩ .nil, ?_⟩
  · rcases hS with hS | hS
    · exact .inl ⟨hS, by simp [Wd.V]⟩
    · exact .inr (.inr hS)
  · rw [e]
    exact fun v H' _ _ r => Rp.bl_inv r
end
/-! the end of a law -/
section
variable {P : Program} {w : World} {K : Frg} {mg mb : Str → Option Value} {k : Nat} {fa a : Addr} {fd : FuncData} {x : Str} {sp : Sp} {s1 : Shared} {us : List Value} {ns : List Int}
/-- the law's def called at an abstract heap in which no more than the script is told -/
theorem law_at (inK : K.In s1.heap) (nsM : s1.heap.Ns mainGlobals mg) (nsB : s1.heap.Ns builtinsNs mb) (bltn : ∀ y : Str, y ≠ "__name__" → mb y = bootBuiltins y) (lim : s1.heap.NoLimit) (g0 : s1.gens = #[])
    (obj : s1.heap.get? a = some { cls := .type "list", data := .seq us.toArray }) (room : Room k callerA) (F : ∀ base : Heap, K.In base → base.Ns mainGlobals mg → FnG P w K mg base k fa fd [x] sp) (bnd : ∀ (s : Shared) (u : Value), BindsTo s fd ⟨[u], []⟩ [(x, u)])
    (H : Hp) (few : Only H) (promise : sp [.ref a] H (fun v _ => v = .bl true) E0) (told : HOk P w H s1.heap) (sole : ∀ b, H b ≠ none → b = a) (own : H a ≠ none → K.lookup a = none) :
    codeAny (model P w) callerA (.call (.ref fa) ⟨[.ref a], []⟩) (fun r s' => r = .ok (.ret (.bool true)) ∧ OldK s1.heap s'.heap ∧ s'.os = s1.os ∧ AllBare s'.gens) s1 := by
  have dictFree : ∀ {b : Addr} {o : Obj} {es : Array DictEntry} {ep : Nat}, s1.heap.get? b = some o → o.data = .dict es ep → H b = none := by
    intro b o es ep got isD
    by_cases z : H b = none
    · exact z
    · have eb := sole b z
      rw [eb, obj] at got
      cases got
      have bad : Data.seq us.toArray _ = Data.dict es ep := isD
      cases bad
  have space : ∀ {b : Addr} {m : Str → Option Value}, s1.heap.Ns b m → (hidT s1.heap H).Ns b m := by
    rintro b m ⟨o, es, ep, got, isD, rest⟩
    exact ⟨o, es, ep, hidT_get got (dictFree got isD), isD, rest⟩
  have written : K.In (hidT s1.heap H) := by
    intro b o got
    refine hidT_get (inK b o got) ?_
    by_cases z : H b = none
    · exact z
    · have eb := sole b z
      subst eb
      rw [own z] at got
      cases got
  obtain ⟨mc, lim1, lim2⟩ := lim
  have env0 : Env0 P w K mg (hidT s1.heap H) callerA [] s1 H := {
    frames := rfl
    mod := ⟨written, space nsM, ⟨mb, space nsB, bltn⟩, ⟨mc, space lim1, lim2⟩⟩
    bs := fun b o got => of_hidT got
    bsz := Nat.le_of_eq (hidT_size _ _)
    funs := trivial
    frf := fun b mem => by cases (show b ∈ ([] : List Addr) from mem)
    hok := told
    bare := .of_eq g0 }
  refine codeAny_mono ((F _ written (space nsM)).runs callerA [] s1 H ⟨[.ref a], []⟩ [.ref a] [.ref a] _ E0 room rfl env0 (bnd s1 (.ref a)) (.cons rfl .nil) promise) ?_
  intro res s2 q
  match res, q with
  | .ok .next, q => exact q.elim
  | .ok .brk, q => exact q.elim
  | .ok .cont, q => exact q.elim
  | .error e, q => exact q.elim
  | .ok (.ret u), ⟨v, H2, sameOs, bare2, un, told2, rel, isT⟩ =>
    have isT : v = .bl true := isT
    rw [isT] at rel
    obtain rfl : u = Value.bool true := rel
    refine ⟨rfl, OldK.of_keep ?_, sameOs, bare2⟩
    intro b o got
    by_cases z : H b = none
    · exact un.keep b o got z (fun mem => by cases (show b ∈ ([] : List Addr) from mem)) (by simp)
    · rcases few b with n | ⟨ob, xs, fz⟩
      · exact (z n).elim
      · have before := (told b _ fz).1
        have behind := (told2 b _ (un.frzs b ob _ fz)).1
        rw [got] at before
        cases before
        exact behind
theorem law_run (inK : K.In s1.heap) (nsM : s1.heap.Ns mainGlobals mg) (nsB : s1.heap.Ns builtinsNs mb) (bltn : ∀ y : Str, y ≠ "__name__" → mb y = bootBuiltins y) (lim : s1.heap.NoLimit) (g0 : s1.gens = #[])
    (obj : s1.heap.get? a = some { cls := .type "list", data := .seq us.toArray }) (are : IntsAre us ns) (short : ns.length ≤ sizeLine) (room : Room k callerA) (F : ∀ base : Heap, K.In base → base.Ns mainGlobals mg → FnG P w K mg base k fa fd [x] sp)
    (bnd : ∀ (s : Shared) (u : Value), BindsTo s fd ⟨[u], []⟩ [(x, u)]) (promise : ∀ H : Hp, Only H → SqL K H a (ns.map V.int) → sp [.ref a] H (fun v _ => v = .bl true) E0) :
    codeAny (model P w) callerA (.call (.ref fa) ⟨[.ref a], []⟩) (fun r s' => r = .ok (.ret (.bool true)) ∧ OldK s1.heap s'.heap ∧ s'.os = s1.os ∧ AllBare s'.gens) s1 := by
  have n := are.length
  have rel := vals_ints are
  by_cases wr : ∃ o, K.lookup a = some o
  · obtain ⟨o, wr⟩ := wr
    have got := inK a o wr
    rw [obj] at got
    cases got
    have few : Only (fun _ => none) := fun _ => Or.inl rfl
    refine law_at inK nsM nsB bltn lim g0 obj room F bnd (fun _ => none) few (promise _ few (Or.inr ⟨_, us.toArray, _, wr, rfl, rfl, rfl, by rw [List.size_toArray, n]; exact short, by simpa using rel⟩)) ?_ (fun b z => (z rfl).elim) (fun z => (z rfl).elim)
    intro b u z
    cases (show (none : Option HO) = some u from z)
  · have free : K.lookup a = none := by
      cases q : K.lookup a with
      | none => rfl
      | some o => exact (wr ⟨o, q⟩).elim
    let fz : HO := .frz { cls := .type "list", data := .seq us.toArray } (.lst (ns.map V.int))
    let H : Hp := fun b => if b = a then some fz else none
    have here : H a = some fz := if_pos rfl
    have there : ∀ b, b ≠ a → H b = none := fun b ne => if_neg ne
    have few : Only H := fun b => by
      by_cases e : b = a
      · subst e; exact Or.inr ⟨_, _, here⟩
      · exact Or.inl (there b e)
    refine law_at inK nsM nsB bltn lim g0 obj room F bnd H few (promise H few (Or.inl (Or.inr ⟨_, here⟩))) ?_ ?_ fun _ => free
    · intro b u z
      by_cases e : b = a
      · subst e
        rw [here] at z
        cases z
        exact ⟨obj, by rw [List.length_map]; exact short, us, _, rel, obj⟩
      · rw [there b e] at z
        cases z
    · intro b z
      by_cases e : b = a
      · exact e
      · exact (z (there b e)).elim
end
theorem walkG {l : PySem.W.OpenLaw} {n k : Nat} {q : Program} {loose : List Str} {XP : (Str → Option Value) → Heap → Prop} {YP : World → Heap → Prop} {d : DefRec} {K : Params → Frg} {sp : World → Sp} {x : Str} (hn : l.most = some n) (hn2 : n ≤ sizeLine) (hdf : d.params.defaults = []) (room : Room k callerA)
    (inK : ∀ (w : World) (h : Heap), YP w h → (K w.params).In h)
    (F : ∀ (w : World) (mg : Str → Option Value) (fa : Addr) (h : Heap), (K w.params).In h → h.Ns mainGlobals mg → mg d.name = some (.ref fa) → ∃ fd : FuncData, (∀ (s : Shared) (u : Value), BindsTo s fd ⟨[u], []⟩ [(x, u)]) ∧ ∀ base : Heap, (K w.params).In base → base.Ns mainGlobals mg → FnG l.prog w (K w.params) mg base k fa fd [x] (sp w))
    (promise : ∀ (w : World) (H : Hp) (a : Addr) (ns : List Int), ns.length ≤ n → Only H → SqL (K w.params) H a (ns.map V.int) → sp w [.ref a] H (fun v _ => v = .bl true) E0) : PySem.W.WalkO q loose XP YP l.row.toRowW d [] (fun f vs => PySem.call f vs) :=
  Att.attach_call hn hdf fun w s0 s1 mg mb fa o pm cd doc a us ns G Y ho hd hcd isLaw obj are short gens => by
    have written := inK w _ Y
    obtain ⟨fd, bnd, made⟩ := F w mg fa _ written G.T.g isLaw
    exact law_run written G.T.g G.T.b G.T.builtins G.T.nolimit gens obj are (Nat.le_trans short hn2) room made bnd fun H few seen => promise w H a ns short few seen
end MV
set_option Elab.async false
set_option linter.all false
set_option maxRecDepth 100000
set_option maxHeartbeats 1000000
/-! Readings by mirrors: several stores at once, texts of things, more methods. -/
namespace MV
open PySem PySem.Spec PyProof.Rows L2
section
variable {X : Cx} {K : Frg} {a b : Expr} {fa fb : Sx} {pos : Pos} {A A' A2 : Wd} {H H' H2 : Hp} {S S' : Sto} {Q : VK} {ρ : Envi} {σ : L2.St} {D : Ends}
/-! ### arguments of which some become cells -/
def PostAC (K : Frg) (A : Wd) (H : Hp) (Q : List V → Hp → Prop) : Res (List Val) → Prop
  | .ok vs S => ∀ A' xs H', Ext A H A' H' → Wf K A' S H' → RvL K A' H' xs vs → Q xs H'
  | .exc _ _ => False
  | .no => False
def tArC (K : Frg) (f : SA) : TA := fun σ H Q => At K σ H fun A ρ S => PostAC K A H Q (f ρ S)
theorem PostAC.shift {Q : List V → Hp → Prop} {r : Res (List Val)} (h : PostAC K A H Q r) (e : Ext A H A2 H2) : PostAC K A2 H2 Q r := by
  cases r with
  | ok v S1 => exact fun A' v H' e' w' r => h A' v H' (e.trans e') w' r
  | exc _ _ => exact h
  | no => exact h
theorem PostAC.seq {β : Type} {P : Res β → Prop} {Q : List V → Hp → Prop} {r : Res (List Val)} {g : List Val → Sto → Res β} (h : P (r.bind g)) (h0 : P .no → False) (h1 : ∀ e S, P (.exc e S) → False)
    (k : ∀ v S1 x A1 H1, Ext A H A1 H1 → Wf K A1 S1 H1 → RvL K A1 H1 x v → P (g v S1) → Q x H1) : PostAC K A H Q r := by
  cases r with
  | ok v S1 => exact fun A1 x H1 e w r => k v S1 x A1 H1 e w r h
  | exc e S => exact (h1 _ _ h).elim
  | no => exact (h0 h).elim
theorem aNC : PA X [] (tArC X.K aNil) := PAi pa_nil fun σ H Q ⟨A, S, ρ, w, env, p⟩ => p A [] H .refl w .nil
section
variable {e : Expr} {es : List Expr} {f : Sx} {g : SA}
theorem aVC (he : PE X e (tE X.K f)) (hr : PA X es (tArC X.K g)) (hs : starEach (e :: es) X.env = (false, eval e X.env) :: starEach es X.env := by rfl) : PA X (e :: es) (tArC X.K (aCons f g)) :=
  PAi (pa_cons he hr hs) fun σ H Q ⟨A, S, ρ, w, env, p⟩ => at_seq (P := PostAC X.K A H Q) w env p (fun h => h) (fun _ _ h => h) fun v S1 x H1 e1 w1 r1 p1 =>
    ⟨A, S1, ρ, w1, env.mono e1, PostAC.seq (P := PostAC X.K A H Q) p1 (fun h => h) (fun _ _ h => h) fun vs S2 xs A2 H2 e2 w2 r2 p2 => p2 _ _ H2 (e1.trans e2) w2 (.cons (r1.mono e2) r2)⟩
def aCell (f : Sx) (g : SA) : SA := fun ρ S => (f ρ S).bind fun v S1 => match v with
  | .f k => (g ρ (S1 ++ [k])).bind fun vs S2 => .ok (.c S1.length :: vs) S2
  | .g cs j => (g ρ (S1 ++ cs)).bind fun vs S2 => .ok (.c (S1.length + j) :: vs) S2
  | _ => .no
theorem aCC (he : PE X e (tE X.K f)) (hr : PA X es (tArC X.K g)) (hs : starEach (e :: es) X.env = (false, eval e X.env) :: starEach es X.env := by rfl) : PA X (e :: es) (tArC X.K (aCell f g)) :=
  PAi (pa_cons he hr hs) fun σ H Q ⟨A, S, ρ, w, env, p⟩ => by
    refine ⟨A, S, ρ, w, env, ?_⟩
    show Post X.K A H _ (f ρ S)
    dsimp only [aCell] at p
    cases q : f ρ S with
    | no => rw [q] at p; exact p
    | exc e S1 => rw [q] at p; exact p
    | ok v S1 =>
      rw [q] at p
      cases v with
      | d x => exact p.elim
      | c n => exact p.elim
      | z ds => exact p.elim
      | x => exact p.elim
      | t its => exact p.elim
      | o nm => exact p.elim
      | g cs j =>
        intro as a H' e w1 hn hl hj
        have e2 : Ext A H (A.pushs as) H' := e.grows (K := X.K) hn
        refine ⟨A.pushs as, S1 ++ cs, ρ, w1, env.mono e2, PostAC.seq (P := PostAC X.K A H Q) p (fun h => h) (fun _ _ h => h) fun vs S2 xs A2 H2 e3 w2 r2 p2 => p2 _ _ H2 (e2.trans e3) w2 (.cons ⟨a, ?_, rfl⟩ r2)⟩
        refine e3.at_ ?_
        have l := w1.len
        simp [Wd.pushs] at l
        show (A.A ++ as)[S1.length + j]? = some a
        rw [List.getElem?_append_right (by omega)]
        rw [show S1.length + j - A.A.length = j by omega]; exact hj
      | f k =>
        intro a H' e w1 hn
        have e2 : Ext A H (A.push a) H' := e.grow hn
        refine ⟨A.push a, S1 ++ [k], ρ, w1, env.mono e2, PostAC.seq (P := PostAC X.K A H Q) p (fun h => h) (fun _ _ h => h) fun vs S2 xs A2 H2 e3 w2 r2 p2 => p2 _ _ H2 (e2.trans e3) w2 (.cons ⟨a, ?_, rfl⟩ r2)⟩
        refine e3.at_ ?_
        show (A.A ++ [a])[S1.length]? = some a
        rw [← w1.drop1.1.len]; simp
end
/-! ### a, b, .. = x, y, .. by a tuple -/
def setAll : Envi → List Nat → List Val → Envi
  | ρ, i :: is, v :: vs => setAll (ρ.set i (some v)) is vs
  | ρ, _, _ => ρ
def setSt : L2.St → List Nat → List V → L2.St
  | σ, i :: is, v :: vs => setSt (σ.set i (some v)) is vs
  | σ, _, _ => σ
theorem REnv.setAll : ∀ {is : List Nat} {ρ : Envi} {σ : L2.St} {xs : List V} {vs : List Val}, REnv K A H ρ σ → RvL K A H xs vs → REnv K A H (setAll ρ is vs) (setSt σ is xs)
  | [], _, _, _, _, e, _ => e
  | _ :: _, _, _, _, _, e, .nil => e
  | i :: is, _, _, _, _, e, .cons r rs => REnv.setAll (is := is) (e.set r) rs
def gNames (is : List Nat) : TGs := fun vs σ H Q => vs.length = is.length ∧ Q (setSt σ is vs) H
theorem gnN : PGs X [] (gNames []) := ⟨fun pins s σ H vs us Q I r h => pgs_nil.run pins s σ H vs us Q I r (by
  obtain ⟨e, q⟩ := h
  cases vs with
  | nil => exact ⟨rfl, q⟩
  | cons _ _ => cases e)⟩
theorem gnC {i : Nat} {is : List Nat} {x : Str} {es : List Expr} (hN : X.N.Nodup) (hi : X.N[i]? = some x) (hx : Loc X.env.scope x) (hr : PGs X es (gNames is)) (hf : X.fn x = true ∨ X.env.scope.names.lookup x = some .local := by first | exact .inl rfl | exact .inr rfl | assumption)
    (hs : (assignEach (.Name x pos :: es) X.env).map (·.2) = assign (.Name x pos) X.env :: (assignEach es X.env).map (·.2) := by rfl) : PGs X (.Name x pos :: es) (gNames (i :: is)) :=
  ⟨fun pins s σ H vs us Q I r h => (pgs_cons (pg_name hN hi hx hf) hr hs).run pins s σ H vs us Q I r (by
    obtain ⟨e, q⟩ := h
    cases vs with
    | nil => cases e
    | cons v vr => exact ⟨v, vr, rfl, by simpa using e, q⟩)⟩
def sMul (is : List Nat) (f : SA) : Ss := fun ρ S => (f ρ S).bind fun vs S1 => if vs.length = is.length ∧ vs.length ≤ 1000 then .ok (.nx (setAll ρ is vs)) S1 else .no
theorem sMulR {is : List Nat} {tes es : List Expr} {f : SA} {kt k2 : Nat} {pt p2 : Pos} (hc : X.calm = true) (ha : PA X es (tArC X.K f)) (hg : PGs X tes (gNames is))
    (hn : (assignEach tes X.env).length = is.length := by rfl) (hst : (assignEach tes X.env).findIdx? (·.1) = none := by rfl)
    (hs : swapsWithSole [.Tuple tes kt pt] (.Tuple es k2 p2) pos.line X.env = pure false := by rfl) (hw : swappedStores [.Tuple tes kt pt] (.Tuple es k2 p2) X.env = pure none := by rfl)
    (h1 : (assignEach [.Tuple tes kt pt] X.env).map (·.2) = [assign (.Tuple tes kt pt) X.env] := by rfl) : PS X (.Assign [.Tuple tes kt pt] (.Tuple es k2 p2) pos) (tS X.K (sMul is f)) :=
  PSi (ps_asg (pe_tup ha) (pg_tup hc hg hn hst) hs hw h1) fun D σ H ⟨A, S, ρ, w, env, p⟩ =>
    ⟨A, S, ρ, w, env, PostAC.seq (P := PostS X.K A H D) p (fun h => h) (fun _ _ h => h) fun vs S1 xs A1 H1 e1 w1 r1 p1 => by
      split at p1
      case isFalse => exact p1.elim
      rename_i c
      have hl : xs.length = vs.length := Paired.length r1
      refine ⟨by rw [hl]; exact line1000 c.2, fun q hq => ⟨q, xs, rfl, .inl (.inl upd_same), by rw [hl]; exact c.1, by rw [hl]; exact c.1, ?_⟩⟩
      have e2 := e1.trans (.laid (o := .tup xs) hq)
      exact p1 A1 _ _ e2 (w1.laid hq) (((env.mono e2)).setAll (r1.mono (Ext.laid hq)))⟩
/-! ### a, b, .. = x, y, .. of plain locals -/
theorem sParC (i j : Nat) {x y : Str} {f : SA} {px py pt : Pos} {kt k2 pt2} (hc : X.calm = true) (hN : X.N.Nodup) (hi : X.N[i]? = some x) (hj : X.N[j]? = some y) (hij : i ≠ j)
    (hx : X.env.scope.names.lookup x = some .local) (hy : X.env.scope.names.lookup y = some .local) (ha : PA X [a, b] (tArC X.K f)) (hs : swappedStores [.Tuple [.Name x px, .Name y py] kt pt] (.Tuple [a, b] k2 pt2) X.env = pure (some [x, y]) := by rfl) : PS X (.Assign [.Tuple [.Name x px, .Name y py] kt pt] (.Tuple [a, b] k2 pt2) pos) (tS X.K (sPar i j f)) := PSi (ps_par hc hN hi hj hij hx hy ha hs) fun D σ H ⟨A, S, ρ, w, env, p⟩ =>
  ⟨A, S, ρ, w, env, PostAC.seq (P := PostS X.K A H D) p (fun h => h) (fun _ _ h => h) fun vs S1 xs A1 H1 e1 w1 r1 p1 => by
    split at p1
    · cases r1 with | cons r1 r2 => cases r2 with | cons r2 r3 => cases r3; exact ⟨_, _, rfl, p1 A1 _ H1 e1 w1 (((env.mono e1).set r1).set r2)⟩
    · exact p1.elim⟩
def sPar3 (i j l : Nat) (f : SA) : Ss := fun ρ S => (f ρ S).bind fun vs S1 => match vs with
  | [u, v, w] => .ok (.nx (((ρ.set i (some u)).set j (some v)).set l (some w))) S1
  | _ => .no
theorem sPar3C (i j l : Nat) {x y z : Str} {c : Expr} {f : SA} {px py pz pt : Pos} {kt k2 pt2} (hc : X.calm = true) (hN : X.N.Nodup) (hi : X.N[i]? = some x) (hj : X.N[j]? = some y) (hl : X.N[l]? = some z) (hij : i ≠ j) (hil : i ≠ l) (hjl : j ≠ l)
    (hx : X.env.scope.names.lookup x = some .local) (hy : X.env.scope.names.lookup y = some .local) (hz : X.env.scope.names.lookup z = some .local) (ha : PA X [a, b, c] (tArC X.K f))
    (hs : swappedStores [.Tuple [.Name x px, .Name y py, .Name z pz] kt pt] (.Tuple [a, b, c] k2 pt2) X.env = pure (some [x, y, z]) := by rfl) : PS X (.Assign [.Tuple [.Name x px, .Name y py, .Name z pz] kt pt] (.Tuple [a, b, c] k2 pt2) pos) (tS X.K (sPar3 i j l f)) := PSi (ps_par3 hc hN hi hj hl hij hil hjl hx hy hz ha hs) fun D σ H ⟨A, S, ρ, w, env, p⟩ =>
  ⟨A, S, ρ, w, env, PostAC.seq (P := PostS X.K A H D) p (fun h => h) (fun _ _ h => h) fun vs S1 xs A1 H1 e1 w1 r1 p1 => by
    split at p1
    · cases r1 with | cons r1 r2 => cases r2 with | cons r2 r3 => cases r3 with | cons r3 r4 => cases r4; exact ⟨_, _, _, rfl, p1 A1 _ H1 e1 w1 ((((env.mono e1).set r1).set r2).set r3)⟩
    · exact p1.elim⟩
/-! ### what is never reached -/
theorem eNo (e : Expr) : PE X e (tE X.K fun _ _ => .no) := ⟨fun pins s σ H Q I h => by
  obtain ⟨A, S, ρ, w, env, p⟩ := h
  exact p.elim⟩
theorem sNo (st : Stmt) : PS X st (tS X.K fun _ _ => .no) := ⟨fun pins s σ H D I h => by
  obtain ⟨A, S, ρ, w, env, p⟩ := h
  exact p.elim⟩
/-! ### list.remove of whole numbers -/
def gRemove (v : Val) (vs : List Val) (S : Sto) : Res Val := match cellL S v, vs with
  | some (n, ds), [.d (.int k)] => match intsOf ds with
    | some ns => if k ∈ ns then .ok (.d .none) (S.set n (.lst ((ns.erase k).map .int))) else .no
    | none => .no
  | _, _ => .no
theorem mRemove : MRul X "list.remove" gRemove := by
  intro pins s σ A S H x xs u us v vs Q I wf rv rvs ru rus p
  unfold gRemove at p
  split at p
  · rename_i n ds k hc
    split at p
    · rename_i ns hns
      split at p
      · rename_i hk
        obtain ⟨a, ys, h1, h2, rfl, h3, h4⟩ := cellL_ok wf rv hc
        cases rvs with | cons r1 r2 =>
        cases r2
        have r1 : Rp X.K A.V H _ (.int k) := r1
        cases r1
        have e := intsOf_ok hns
        subst e
        have e2 := h4.ints
        subst e2
        have hlt := List.idxOf_lt_length_of_mem hk
        refine mt_remove pins s σ H _ _ u us Q I ru rus ⟨a, ns, k, ns.idxOf k, rfl, rfl, h3, ?_, ?_, ?_⟩
        · rw [List.getElem?_eq_getElem hlt, List.getElem_idxOf hlt]
        · intro m hm e
          have := List.not_of_lt_findIdx (p := (· == k)) (xs := ns) (i := m) (by simpa [List.idxOf] using hm)
          rw [List.getElem?_eq_getElem (by omega)] at e
          simp at this e
          exact this e
        · rw [← List.erase_eq_eraseIdx_of_idxOf rfl]
          exact p.put wf h1 (RpL.of_ints _) .non
      · exact p.elim
    · exact p.elim
  · exact p.elim
/-! ### texts of things -/
open Classical in
noncomputable def gRepr : List Val → Sto → Res Val
  | [v], S => match asD S v with
    | some d => if d.canLay0 = true ∧ d.showable = true ∧ d.shown.length ≤ sizeLine ∧ d.depth ≤ 64 then .ok (.d (.str d.shown)) S else .no
    | none => .no
  | _, _ => .no
theorem bRepr (hu : X.A.units + 100 < cLine) (gd : X.A.guards = some []) : BRul X (.builtin "repr") gRepr := by
  intro pins s σ A S H xs us vs Q I wf rvs rus p
  unfold gRepr at p
  split at p
  case h_2 => exact p.elim
  rename_i v _
  cases rvs with | cons r1 r2 =>
  cases r2
  split at p
  case h_2 => exact p.elim
  rename_i d hd
  split at p
  case isFalse => exact p.elim
  rename_i c
  obtain ⟨c1, c2, c3, c4⟩ := c
  have dp := asD_dp wf r1 hd c1
  obtain ⟨u, rfl, ru⟩ := vals1 rus
  obtain ⟨as, rd⟩ := Dp.reads I d _ u dp ru
  have fin : ∀ h' t k, (∀ b o, s.heap.get? b = some o → h'.get? b = some o) → EP X pins σ Q (.str d.shown t) { s with heap := h', toks := k } := fun h' t k kp =>
    ⟨.str d.shown, H, I.kept kp, ⟨t, rfl⟩, p _ H .refl wf (.str _)⟩
  have fin0 : EP X pins σ Q (.str d.shown s.toks) { s with toks := s.toks + 1 } := ⟨.str d.shown, H, I.tok _, ⟨_, rfl⟩, p _ H .refl wf (.str _)⟩
  cases d with
  | none => cases rd; simp only [PyData.shown] at fin0; exact PySem.P.repr_of_none fin0
  | bool b => cases rd; simp only [PyData.shown] at fin0; exact PySem.P.repr_of_bool fin0
  | int i =>
    cases rd
    simp only [PyData.shown] at fin0
    exact PySem.P.repr_of_int (by simpa [PyData.showable] using c2) fin0
  | str x =>
    cases rd
    simp only [PyData.shown] at fin0 c3
    exact PySem.P.repr_of_str fin0 c3
  | list ds =>
    cases rd
    all_goals exact repr_of_reads' (by constructor <;> assumption) c2 (fun z => by rw [PyData.hasDict_of_canLay _ c1] at z; cases z) gd (by omega) (fun _ _ h => h) (fun h' t k kp => fin h' t k kp) c3
  | tuple ds =>
    cases rd
    all_goals exact repr_of_reads' (by constructor <;> assumption) c2 (fun z => by rw [PyData.hasDict_of_canLay _ c1] at z; cases z) gd (by omega) (fun _ _ h => h) (fun h' t k kp => fin h' t k kp) c3
  | dict ps => simp [PyData.canLay0] at c1
end
end MV
set_option Elab.async false
set_option linter.all false
set_option maxRecDepth 100000
set_option maxHeartbeats 1000000
/-! dict(zip(s, t)) of two tuples; d.update(a list of pairs). -/
namespace MV
open PySem PySem.Spec PyProof.Rows L2
section
variable {prog : Program} {w : World} {A : Around} {E : Value → Shared → Prop} {s : Shared} {z TI TO T i1 i2 l1 l2 : Addr} {f t1 t2 : Bool} {oT : Obj} {k : Nat} {xs ys : Array Value}
/-- an iterator of a tuple (true) or a list (false), k items on -/
def Crs (t : Bool) (h : Heap) (it l : Addr) (k : Nat) (xs : Array Value) : Prop := match t with
  | true => h.IsTupleIter it l k ∧ h.IsTuple l xs
  | false => h.IsListIter it l k ∧ h.IsList l xs
def Srq (t : Bool) (h : Heap) (l : Addr) (xs : Array Value) : Prop := match t with
  | true => h.IsTuple l xs
  | false => h.IsList l xs
theorem Crs.at2 {t : Bool} {h h' : Heap} {it l : Addr} (c : Crs t h it l k xs) (e1 : ∀ o, h.get? it = some o → h'.get? it = some o) (e2 : ∀ o, h.get? l = some o → h'.get? l = some o) : Crs t h' it l k xs := by
  cases t with
  | true => exact ⟨c.1.at e1, c.2.at e2⟩
  | false => exact ⟨c.1.at e1, c.2.at e2⟩
theorem Crs.ext {t : Bool} {h h' : Heap} {it l a : Addr} (c : Crs t h it l k xs) (e : Heap.ExtBut a h h') (n1 : it ≠ a) (n2 : l ≠ a) : Crs t h' it l k xs := c.at2 (fun o q => e _ o n1 q) fun o q => e _ o n2 q
theorem Crs.itAt {t : Bool} {h : Heap} {it l : Addr} (c : Crs t h it l k xs) : ∃ o, h.get? it = some o := by
  cases t with
  | true => obtain ⟨⟨o, q, _⟩, _⟩ := c; exact ⟨o, q⟩
  | false => obtain ⟨⟨o, q, _⟩, _⟩ := c; exact ⟨o, q⟩
theorem Crs.srcAt {t : Bool} {h : Heap} {it l : Addr} (c : Crs t h it l k xs) : ∃ o, h.get? l = some o := by
  cases t with
  | true => obtain ⟨_, ⟨o, q, _⟩⟩ := c; exact ⟨o, q⟩
  | false => obtain ⟨_, ⟨o, q, _⟩⟩ := c; exact ⟨o, q⟩
theorem crs_item {t : Bool} {it l : Addr} {x : Value} {Q : Value → Shared → Prop} (c : Crs t s.heap it l k xs) (ne : l ≠ it) (hx : xs[k]? = some x) (fin : ∀ h', Crs t h' it l (k + 1) xs → Heap.SameBut it s.heap h' → Q x { s with heap := h' }) :
    wpAny (model prog w) A (Builtin.SmallTypes.nextOf (.ref it)) Q E s := by
  cases t with
  | true => exact RZ.nextOf_tuple_item c.1 c.2 hx fun h' b sb => fin h' ⟨b, c.2.at fun o q => sb.extBut _ o ne q⟩ sb
  | false => exact wpAny_nextOf_list_item c.1 c.2 hx fun h' b sb => fin h' ⟨b, c.2.at fun o q => sb.extBut _ o ne q⟩ sb
theorem crs_stop {t : Bool} {it l : Addr} {Q : Value → Shared → Prop} (hh : A.handled = none) (c : Crs t s.heap it l k xs) (hx : xs[k]? = none)
    (fin : ∀ h' e, Heap.ExtBut it s.heap h' → (∃ o, h'.get? e = some o ∧ o.cls = .type "StopIteration") → E (.ref e) { s with heap := h' }) : wpAny (model prog w) A (Builtin.SmallTypes.nextOf (.ref it)) Q E s := by
  cases t with
  | true => exact RZ.nextOf_tuple_end hh c.1 c.2 hx fin
  | false => exact wpAny_nextOf_list_end hh c.1 c.2 hx fin
theorem crs_make {t : Bool} {l : Addr} {Q : Value → Shared → Prop} (c : Srq t s.heap l xs) (fin : ∀ o, (∀ h : Heap, h.get? s.heap.objs.size = some o → Srq t h l xs → Crs t h s.heap.objs.size l 0 xs) → o.isFreed = false → Q (.ref s.heap.objs.size) { s with heap := s.heap.push o }) :
    wpAny (model prog w) A (pyIter (.ref l)) Q E s := by
  cases t with
  | true => exact wpAny_pyIter_tuple c (fin _ (fun h e q => ⟨⟨_, e, rfl, rfl⟩, q⟩) rfl)
  | false => exact wpAny_pyIter_list c (fin _ (fun h e q => ⟨⟨_, e, rfl, rfl⟩, q⟩) rfl)
theorem Srq.at {t : Bool} {h h' : Heap} {l : Addr} (c : Srq t h l xs) (e : ∀ o, h.get? l = some o → h'.get? l = some o) : Srq t h' l xs := by
  cases t with
  | true => exact Heap.IsTuple.at c e
  | false => exact Heap.IsList.at c e
/-- a zip over two of these whose last pair is still there -/
structure Held (t1 t2 : Bool) (h : Heap) (z TI TO T i1 i2 l1 l2 : Addr) (f : Bool) (oT : Obj) (k : Nat) (xs ys : Array Value) : Prop where
  zip : IsZipHeld h z TI TO T f
  last : h.get? T = some oT
  ins : IsPair h TI (.ref i1) (.ref i2)
  c1 : Crs t1 h i1 l1 k xs
  c2 : Crs t2 h i2 l2 k ys
/-- one with no pair given out -/
structure Loose (t1 t2 : Bool) (h : Heap) (z TI TO i1 i2 l1 l2 : Addr) (a b : Value) (k : Nat) (xs ys : Array Value) : Prop where
  zip : IsZip h z TI TO .none
  ins : IsPair h TI (.ref i1) (.ref i2)
  out : IsPair h TO a b
  c1 : Crs t1 h i1 l1 k xs
  c2 : Crs t2 h i2 l2 k ys
theorem held_next {x y : Value} {Q : Value → Shared → Prop} (D : ZipApart z TI TO i1 i2 l1 l2) (st : Held t1 t2 s.heap z TI TO T i1 i2 l1 l2 f oT k xs ys) (ex : xs[k]? = some x) (ey : ys[k]? = some y)
    (fin : ∀ h', IsZipHeld h' z TI TO T true → Crs t1 h' i1 l1 (k + 1) xs → Crs t2 h' i2 l2 (k + 1) ys → IsPair h' s.heap.objs.size x y → (∀ c o, c ≠ z → c ≠ i1 → c ≠ i2 → s.heap.get? c = some o → h'.get? c = some o) → Q (.ref s.heap.objs.size) { s with heap := h' }) :
    wpAny (model prog w) A (Builtin.«zip.__next__» ⟨[.ref z], []⟩) (fun r s' => ∃ v, r = .done (.ret v) ∧ Q v s') E s := by
  change wpAny _ _ (field (.ref z) 2 >>= _) _ _ _
  apply wpAny_bind
  refine wpAny_field st.zip rfl (x := .bool false) rfl ?_
  change wpAny _ _ (field (.ref z) 3 >>= _) _ _ _
  apply wpAny_bind
  refine wpAny_field st.zip rfl (x := .ref TI) rfl ?_
  apply wpAny_bind
  refine wpAny_seqItems st.ins rfl ?_
  change wpAny _ _ (Builtin.SmallTypes.ownedTupleIsFree (.ref z) >>= _) _ _ _
  apply wpAny_bind
  refine wpAny_tupleHeld_zip st.zip st.last ?_
  intro ha za sa
  have ka : ∀ c o, c ≠ z → s.heap.get? c = some o → ha.get? c = some o := fun c o n q => sa.extBut _ _ n q
  rw [if_neg Bool.false_ne_true]
  apply wpAny_bind
  rw [← Array.forIn_toList]
  simp only [List.forIn_cons, List.forIn_nil]
  apply wpAny_bind
  apply wpAny_bind
  refine wpAny_holding ?_
  change wpAny _ _ (Builtin.SmallTypes.nextOf (.ref i1) >>= _) _ _ _
  apply wpAny_bind
  refine crs_item (s := { s with heap := ha }) (st.c1.ext sa.extBut D.i1z D.l1z) D.l1i1 ex ?_
  intro hb b1 sb
  refine wpAny_pure (wpAny_pure ?_)
  apply wpAny_bind
  apply wpAny_bind
  refine wpAny_holding ?_
  change wpAny _ _ (Builtin.SmallTypes.nextOf (.ref i2) >>= _) _ _ _
  apply wpAny_bind
  refine crs_item (s := { s with heap := hb }) ((st.c2.ext sa.extBut D.i2z D.l2z).ext sb.extBut D.i12.symm D.l2i1) D.l2i2 ey ?_
  intro hc c2 sc
  refine wpAny_pure (wpAny_pure ?_)
  refine wpAny_pure ?_
  change wpAny _ _ (newTuple [x, y] >>= _) _ _ _
  apply wpAny_bind
  refine wpAny_newTuple (wpAny_pure ⟨_, rfl, ?_⟩)
  have size : hc.objs.size = s.heap.objs.size := by rw [sc.1, sb.1, sa.1]
  have kc : ∀ c o, c ≠ z → c ≠ i1 → c ≠ i2 → s.heap.get? c = some o → hc.get? c = some o := fun c o n1 n2 n3 q => sc.extBut _ _ n3 (sb.extBut _ _ n2 (ka c o n1 q))
  have pair : IsPair (hc.push { cls := .type "tuple", data := .seq #[x, y] }) hc.objs.size x y := Heap.get?_push_size _ rfl
  have res := fin (hc.push { cls := .type "tuple", data := .seq #[x, y] }) (Heap.get?_push_of_some _ (sc.extBut _ _ D.i2z.symm (sb.extBut _ _ D.i1z.symm za))) ((b1.ext sc.extBut D.i12 D.l1i2).at2 (fun o q => Heap.get?_push_of_some _ q) fun o q => Heap.get?_push_of_some _ q) (c2.at2 (fun o q => Heap.get?_push_of_some _ q) fun o q => Heap.get?_push_of_some _ q)
  rw [size] at pair
  have res2 := res pair fun c o n1 n2 n3 q => Heap.get?_push_of_some _ (kc c o n1 n2 n3 q)
  rw [← size] at res2
  exact res2
theorem held_stop {Q : PySem.Fin → Shared → Prop} (hh : A.handled = none) (D : ZipApart z TI TO i1 i2 l1 l2) (st : Held t1 t2 s.heap z TI TO T i1 i2 l1 l2 f oT k xs ys) (none1 : xs[k]? = none ∨ ys[k]? = none)
    (fin : ∀ h' e, (∀ c o, c ≠ z → c ≠ i1 → c ≠ i2 → s.heap.get? c = some o → h'.get? c = some o) → (∃ o, h'.get? e = some o ∧ o.cls = .type "StopIteration") → E (.ref e) { s with heap := h' }) : wpAny (model prog w) A (Builtin.«zip.__next__» ⟨[.ref z], []⟩) Q E s := by
  change wpAny _ _ (field (.ref z) 2 >>= _) _ _ _
  apply wpAny_bind
  refine wpAny_field st.zip rfl (x := .bool false) rfl ?_
  change wpAny _ _ (field (.ref z) 3 >>= _) _ _ _
  apply wpAny_bind
  refine wpAny_field st.zip rfl (x := .ref TI) rfl ?_
  apply wpAny_bind
  refine wpAny_seqItems st.ins rfl ?_
  change wpAny _ _ (Builtin.SmallTypes.ownedTupleIsFree (.ref z) >>= _) _ _ _
  apply wpAny_bind
  refine wpAny_tupleHeld_zip st.zip st.last ?_
  intro ha za sa
  have ka : ∀ c o, c ≠ z → s.heap.get? c = some o → ha.get? c = some o := fun c o n q => sa.extBut _ _ n q
  rw [if_neg Bool.false_ne_true]
  apply wpAny_bind
  rw [← Array.forIn_toList]
  simp only [List.forIn_cons, List.forIn_nil]
  apply wpAny_bind
  apply wpAny_bind
  refine wpAny_holding ?_
  change wpAny _ _ (Builtin.SmallTypes.nextOf (.ref i1) >>= _) _ _ _
  apply wpAny_bind
  by_cases q1 : xs[k]? = none
  · refine crs_stop (s := { s with heap := ha }) hh (st.c1.ext sa.extBut D.i1z D.l1z) q1 ?_
    intro hb e keep stop
    exact fin hb e (fun c o n1 n2 _ q => keep _ _ n2 (ka c o n1 q)) stop
  · obtain ⟨x, ex⟩ := Option.ne_none_iff_exists'.mp q1
    refine crs_item (s := { s with heap := ha }) (st.c1.ext sa.extBut D.i1z D.l1z) D.l1i1 ex ?_
    intro hb b1 sb
    refine wpAny_pure (wpAny_pure ?_)
    apply wpAny_bind
    apply wpAny_bind
    refine wpAny_holding ?_
    change wpAny _ _ (Builtin.SmallTypes.nextOf (.ref i2) >>= _) _ _ _
    apply wpAny_bind
    refine crs_stop (s := { s with heap := hb }) hh ((st.c2.ext sa.extBut D.i2z D.l2z).ext sb.extBut D.i12.symm D.l2i1) (none1.resolve_left q1) ?_
    intro hc e keep stop
    exact fin hc e (fun c o n1 n2 n3 q => keep _ _ n3 (sb.extBut _ _ n2 (ka c o n1 q))) stop
theorem held_py {x y : Value} {Q : Option Value → Shared → Prop} (D : ZipApart z TI TO i1 i2 l1 l2) (st : Held t1 t2 s.heap z TI TO T i1 i2 l1 l2 f oT k xs ys) (ex : xs[k]? = some x) (ey : ys[k]? = some y)
    (fin : ∀ h', IsZipHeld h' z TI TO T true → Crs t1 h' i1 l1 (k + 1) xs → Crs t2 h' i2 l2 (k + 1) ys → IsPair h' s.heap.objs.size x y → (∀ c o, c ≠ z → c ≠ i1 → c ≠ i2 → s.heap.get? c = some o → h'.get? c = some o) → Q (some (.ref s.heap.objs.size)) { s with heap := h' }) :
    wpAny (model prog w) A (pyNext (.ref z)) Q E s := by
  have ty : s.TypeIs (.ref z) "zip" := ⟨_, st.zip, rfl⟩
  unfold pyNext
  refine wpAny_bind (wpAny_attempt (wpAny_callSpecial?_slot (name := Str.ofString "__next__") ty PySem.F.slot_zip_next (wpAny_call_entry PySem.F.slot_zip_next ty PySem.F.entry_zip_next (held_next D st ex ey ?_) (PySem.F.args_zip_next_1 _))))
  intro h' a1 a2 a3 a4 a5
  exact wpAny_pure (fin h' a1 a2 a3 a4 a5)
theorem held_py_stop {Q : Option Value → Shared → Prop} (hh : A.handled = none) (D : ZipApart z TI TO i1 i2 l1 l2) (st : Held t1 t2 s.heap z TI TO T i1 i2 l1 l2 f oT k xs ys) (none1 : xs[k]? = none ∨ ys[k]? = none)
    (fin : ∀ h', (∀ c o, c ≠ z → c ≠ i1 → c ≠ i2 → s.heap.get? c = some o → h'.get? c = some o) → Q none { s with heap := h' }) : wpAny (model prog w) A (pyNext (.ref z)) Q E s := by
  have ty : s.TypeIs (.ref z) "zip" := ⟨_, st.zip, rfl⟩
  unfold pyNext
  refine wpAny_bind (wpAny_attempt (wpAny_callSpecial?_slot (name := Str.ofString "__next__") ty PySem.F.slot_zip_next (wpAny_call_entry PySem.F.slot_zip_next ty PySem.F.entry_zip_next (held_stop hh D st none1 ?_) (PySem.F.args_zip_next_1 _))))
  rintro h' e keep ⟨o, got, cls⟩
  exact wpAny_bind (wpAny_isInstance (T := "StopIteration") (b := true) ⟨o, got, cls⟩ isSubtype_stop (wpAny_pure (fin _ keep)))
theorem loose_next {x y a b : Value} {Q : Value → Shared → Prop} (D : ZipApart z TI TO i1 i2 l1 l2) (st : Loose t1 t2 s.heap z TI TO i1 i2 l1 l2 a b k xs ys) (ex : xs[k]? = some x) (ey : ys[k]? = some y)
    (fin : ∀ h', IsZip h' z TI TO (rawInt s.heap.objs.size) → Crs t1 h' i1 l1 (k + 1) xs → Crs t2 h' i2 l2 (k + 1) ys → IsPair h' s.heap.objs.size x y → IsPair h' TO x y → (∀ c o, c ≠ z → c ≠ TO → c ≠ i1 → c ≠ i2 → s.heap.get? c = some o → h'.get? c = some o) → Q (.ref s.heap.objs.size) { s with heap := h' }) :
    wpAny (model prog w) A (Builtin.«zip.__next__» ⟨[.ref z], []⟩) (fun r s' => ∃ v, r = .done (.ret v) ∧ Q v s') E s := by
  change wpAny _ _ (field (.ref z) 2 >>= _) _ _ _
  apply wpAny_bind
  refine wpAny_field st.zip rfl (x := .bool false) rfl ?_
  change wpAny _ _ (field (.ref z) 3 >>= _) _ _ _
  apply wpAny_bind
  refine wpAny_field st.zip rfl (x := .ref TI) rfl ?_
  apply wpAny_bind
  refine wpAny_seqItems st.ins rfl ?_
  change wpAny _ _ (Builtin.SmallTypes.ownedTupleIsFree (.ref z) >>= _) _ _ _
  apply wpAny_bind
  unfold Builtin.SmallTypes.ownedTupleIsFree
  apply wpAny_bind
  refine wpAny_field st.zip rfl (x := .none) rfl (wpAny_pure ?_)
  simp only [if_true]
  apply wpAny_bind
  refine wpAny_rule ?_
  apply wpAny_bind
  refine wpAny_field st.zip rfl (x := .ref TO) rfl ?_
  apply wpAny_bind
  refine wpAny_setField_rec st.zip (by simp) fun ha (za : IsZip ha z TI TO .ellipsis) sa => ?_
  apply wpAny_bind
  simp only [List.zipIdx_cons, List.zipIdx_nil, List.forIn_cons, List.forIn_nil]
  apply wpAny_bind
  apply wpAny_bind
  refine wpAny_onRaise ?_
  change wpAny _ _ (Builtin.SmallTypes.nextOf (.ref i1) >>= _) _ _ _
  apply wpAny_bind
  refine crs_item (s := { s with heap := ha }) (st.c1.ext sa.extBut D.i1z D.l1z) D.l1i1 ex fun hb b1 sb => wpAny_pure ?_
  have ob : IsPair hb TO a b := sb.extBut _ _ D.TOi1 (sa.extBut _ _ D.TOz st.out)
  apply wpAny_bind
  refine wpAny_seqItems ob rfl ?_
  apply wpAny_bind
  refine wpAny_updateSeq_pair ob fun hc (oc : IsPair hc TO x b) sc => ?_
  apply wpAny_bind
  refine wpAny_letGo (wpAny_pure ?_)
  apply wpAny_bind
  apply wpAny_bind
  refine wpAny_onRaise ?_
  change wpAny _ _ (Builtin.SmallTypes.nextOf (.ref i2) >>= _) _ _ _
  apply wpAny_bind
  refine crs_item (s := { s with heap := hc }) (((st.c2.ext sa.extBut D.i2z D.l2z).ext sb.extBut D.i12.symm D.l2i1).ext sc.extBut D.TOi2.symm D.l2TO) D.l2i2 ey fun hd d2 sd => wpAny_pure ?_
  have od : IsPair hd TO x b := sd.extBut _ _ D.TOi2 oc
  apply wpAny_bind
  refine wpAny_seqItems od rfl ?_
  apply wpAny_bind
  refine wpAny_updateSeq_pair od fun he (oe : IsPair he TO x y) se => ?_
  apply wpAny_bind
  refine wpAny_letGo (wpAny_pure (wpAny_pure ?_))
  apply wpAny_bind
  refine wpAny_seqItems oe rfl ?_
  apply wpAny_bind
  refine wpAny_newTuple ?_
  have size : he.objs.size = s.heap.objs.size := by rw [se.1, sd.1, sc.1, sb.1, sa.1]
  have ze : IsZip he z TI TO .ellipsis := se.extBut _ _ D.TOz.symm (sd.extBut _ _ D.i2z.symm (sc.extBut _ _ D.TOz.symm (sb.extBut _ _ D.i1z.symm za)))
  have ke : ∀ c o, c ≠ z → c ≠ TO → c ≠ i1 → c ≠ i2 → s.heap.get? c = some o → he.get? c = some o := fun c o n1 n2 n3 n4 q => se.extBut _ _ n2 (sd.extBut _ _ n4 (sc.extBut _ _ n2 (sb.extBut _ _ n3 (sa.extBut _ _ n1 q))))
  have e1 : Crs t1 he i1 l1 (k + 1) xs := ((b1.ext sc.extBut D.TOi1.symm D.l1TO).ext sd.extBut D.i12 D.l1i2).ext se.extBut D.TOi1.symm D.l1TO
  have e2 : Crs t2 he i2 l2 (k + 1) ys := d2.ext se.extBut D.TOi2.symm D.l2TO
  have zlt : z < he.objs.size := Heap.lt_size ze
  change wpAny _ _ (Builtin.SmallTypes.ownedTupleHandOut (.ref z) (.ref he.objs.size) >>= _) _ _ _
  apply wpAny_bind
  unfold Builtin.SmallTypes.ownedTupleHandOut
  have zf : IsZip (he.push { cls := .type "tuple", data := .seq #[x, y] }) z TI TO .ellipsis := Heap.get?_push_of_some _ ze
  apply wpAny_bind
  refine wpAny_setField_rec zf (by simp) fun hg (zg : IsZip hg z TI TO (rawInt he.objs.size)) sg => ?_
  refine wpAny_setField_rec zg (by simp) fun hk (zk : IsZip hk z TI TO (rawInt he.objs.size)) sk => ?_
  have up : ∀ c o, c ≠ z → he.get? c = some o → hk.get? c = some o := fun c o n q => sk.extBut _ _ n (sg.extBut _ _ n (Heap.get?_push_of_some _ q))
  have pk : IsPair hk he.objs.size x y := sk.extBut _ _ (Nat.ne_of_gt zlt) (sg.extBut _ _ (Nat.ne_of_gt zlt) (Heap.get?_push_size _ rfl))
  rw [size] at zk pk
  refine wpAny_pure ⟨_, rfl, ?_⟩
  change Q (.ref he.objs.size) _
  rw [size]
  exact fin hk zk (e1.at2 (fun o => up _ o D.i1z) fun o => up _ o D.l1z) (e2.at2 (fun o => up _ o D.i2z) fun o => up _ o D.l2z) pk (up _ _ D.TOz oe) fun c o n1 n2 n3 n4 q => up c o n1 (ke c o n1 n2 n3 n4 q)
theorem loose_stop {a b : Value} {Q : PySem.Fin → Shared → Prop} (hh : A.handled = none) (D : ZipApart z TI TO i1 i2 l1 l2) (st : Loose t1 t2 s.heap z TI TO i1 i2 l1 l2 a b k xs ys) (none1 : xs[k]? = none ∨ ys[k]? = none)
    (fin : ∀ h' e, (∀ c o, c ≠ z → c ≠ TO → c ≠ i1 → c ≠ i2 → s.heap.get? c = some o → h'.get? c = some o) → (∃ o, h'.get? e = some o ∧ o.cls = .type "StopIteration") → E (.ref e) { s with heap := h' }) : wpAny (model prog w) A (Builtin.«zip.__next__» ⟨[.ref z], []⟩) Q E s := by
  change wpAny _ _ (field (.ref z) 2 >>= _) _ _ _
  apply wpAny_bind
  refine wpAny_field st.zip rfl (x := .bool false) rfl ?_
  change wpAny _ _ (field (.ref z) 3 >>= _) _ _ _
  apply wpAny_bind
  refine wpAny_field st.zip rfl (x := .ref TI) rfl ?_
  apply wpAny_bind
  refine wpAny_seqItems st.ins rfl ?_
  change wpAny _ _ (Builtin.SmallTypes.ownedTupleIsFree (.ref z) >>= _) _ _ _
  apply wpAny_bind
  unfold Builtin.SmallTypes.ownedTupleIsFree
  apply wpAny_bind
  refine wpAny_field st.zip rfl (x := .none) rfl (wpAny_pure ?_)
  simp only [if_true]
  apply wpAny_bind
  refine wpAny_rule ?_
  apply wpAny_bind
  refine wpAny_field st.zip rfl (x := .ref TO) rfl ?_
  apply wpAny_bind
  refine wpAny_setField_rec st.zip (by simp) fun ha (za : IsZip ha z TI TO .ellipsis) sa => ?_
  apply wpAny_bind
  simp only [List.zipIdx_cons, List.zipIdx_nil, List.forIn_cons, List.forIn_nil]
  apply wpAny_bind
  apply wpAny_bind
  refine wpAny_onRaise ?_
  change wpAny _ _ (Builtin.SmallTypes.nextOf (.ref i1) >>= _) _ _ _
  apply wpAny_bind
  by_cases q1 : xs[k]? = none
  · refine crs_stop (s := { s with heap := ha }) hh (st.c1.ext sa.extBut D.i1z D.l1z) q1 fun hb e sb ⟨oe, ge, ce⟩ => ?_
    have zb : IsZip hb z TI TO .ellipsis := sb _ _ D.i1z.symm za
    have ne : e ≠ z := fun x => by subst x; rw [zb] at ge; cases ge; simp at ce
    exact wpAny_setField_rec zb (by simp) fun hc _ sc => fin hc e (fun c o n1 _ n3 _ q => sc.extBut _ _ n1 (sb _ _ n3 (sa.extBut _ _ n1 q))) ⟨oe, sc.extBut _ _ ne ge, ce⟩
  · obtain ⟨x, ex⟩ := Option.ne_none_iff_exists'.mp q1
    refine crs_item (s := { s with heap := ha }) (st.c1.ext sa.extBut D.i1z D.l1z) D.l1i1 ex fun hb b1 sb => wpAny_pure ?_
    have ob : IsPair hb TO a b := sb.extBut _ _ D.TOi1 (sa.extBut _ _ D.TOz st.out)
    apply wpAny_bind
    refine wpAny_seqItems ob rfl ?_
    apply wpAny_bind
    refine wpAny_updateSeq_pair ob fun hc _ sc => ?_
    apply wpAny_bind
    refine wpAny_letGo (wpAny_pure ?_)
    apply wpAny_bind
    apply wpAny_bind
    refine wpAny_onRaise ?_
    change wpAny _ _ (Builtin.SmallTypes.nextOf (.ref i2) >>= _) _ _ _
    apply wpAny_bind
    refine crs_stop (s := { s with heap := hc }) hh (((st.c2.ext sa.extBut D.i2z D.l2z).ext sb.extBut D.i12.symm D.l2i1).ext sc.extBut D.TOi2.symm D.l2TO) (none1.resolve_left q1) fun hd e sd ⟨oe, ge, ce⟩ => ?_
    have zd : IsZip hd z TI TO .ellipsis := sd _ _ D.i2z.symm (sc.extBut _ _ D.TOz.symm (sb.extBut _ _ D.i1z.symm za))
    have ne : e ≠ z := fun x => by subst x; rw [zd] at ge; cases ge; simp at ce
    exact wpAny_setField_rec zd (by simp) fun he _ se => fin he e (fun c o n1 n2 n3 n4 q => se.extBut _ _ n1 (sd _ _ n4 (sc.extBut _ _ n2 (sb.extBut _ _ n3 (sa.extBut _ _ n1 q))))) ⟨oe, se.extBut _ _ ne ge, ce⟩
theorem loose_py {x y a b : Value} {Q : Option Value → Shared → Prop} (D : ZipApart z TI TO i1 i2 l1 l2) (st : Loose t1 t2 s.heap z TI TO i1 i2 l1 l2 a b k xs ys) (ex : xs[k]? = some x) (ey : ys[k]? = some y)
    (fin : ∀ h', IsZip h' z TI TO (rawInt s.heap.objs.size) → Crs t1 h' i1 l1 (k + 1) xs → Crs t2 h' i2 l2 (k + 1) ys → IsPair h' s.heap.objs.size x y → IsPair h' TO x y → (∀ c o, c ≠ z → c ≠ TO → c ≠ i1 → c ≠ i2 → s.heap.get? c = some o → h'.get? c = some o) → Q (some (.ref s.heap.objs.size)) { s with heap := h' }) :
    wpAny (model prog w) A (pyNext (.ref z)) Q E s := by
  have ty : s.TypeIs (.ref z) "zip" := ⟨_, st.zip, rfl⟩
  unfold pyNext
  refine wpAny_bind (wpAny_attempt (wpAny_callSpecial?_slot (name := Str.ofString "__next__") ty PySem.F.slot_zip_next (wpAny_call_entry PySem.F.slot_zip_next ty PySem.F.entry_zip_next (loose_next D st ex ey ?_) (PySem.F.args_zip_next_1 _))))
  intro h' a1 a2 a3 a4 a5 a6
  exact wpAny_pure (fin h' a1 a2 a3 a4 a5 a6)
theorem loose_py_stop {a b : Value} {Q : Option Value → Shared → Prop} (hh : A.handled = none) (D : ZipApart z TI TO i1 i2 l1 l2) (st : Loose t1 t2 s.heap z TI TO i1 i2 l1 l2 a b k xs ys) (none1 : xs[k]? = none ∨ ys[k]? = none)
    (fin : ∀ h', (∀ c o, c ≠ z → c ≠ TO → c ≠ i1 → c ≠ i2 → s.heap.get? c = some o → h'.get? c = some o) → Q none { s with heap := h' }) : wpAny (model prog w) A (pyNext (.ref z)) Q E s := by
  have ty : s.TypeIs (.ref z) "zip" := ⟨_, st.zip, rfl⟩
  unfold pyNext
  refine wpAny_bind (wpAny_attempt (wpAny_callSpecial?_slot (name := Str.ofString "__next__") ty PySem.F.slot_zip_next (wpAny_call_entry PySem.F.slot_zip_next ty PySem.F.entry_zip_next (loose_stop hh D st none1 ?_) (PySem.F.args_zip_next_1 _))))
  rintro h' e keep ⟨o, got, cls⟩
  exact wpAny_bind (wpAny_isInstance (T := "StopIteration") (b := true) ⟨o, got, cls⟩ isSubtype_stop (wpAny_pure (fin _ keep)))
/-- where the zip stands after i pairs: nothing out yet, or its last pair still out -/
def ZAt (t1 t2 : Bool) (z TI TO i1 i2 l1 l2 d : Addr) (xs ys : Array Value) (i : Nat) (h : Heap) : Prop :=
  IsPair h TI (.ref i1) (.ref i2) ∧ Crs t1 h i1 l1 i xs ∧ Crs t2 h i2 l2 i ys ∧
    ((IsZip h z TI TO .none ∧ ∃ a b, IsPair h TO a b) ∨ ∃ T f oT, IsZipHeld h z TI TO T f ∧ h.get? T = some oT ∧ (T ≠ z ∧ T ≠ i1 ∧ T ≠ i2) ∧ T ≠ d)
theorem ZAt.frame {d : Addr} {h h' : Heap} {i : Nat} (n : z ≠ d ∧ TI ≠ d ∧ TO ≠ d ∧ i1 ≠ d ∧ i2 ≠ d ∧ l1 ≠ d ∧ l2 ≠ d) (st : ZAt t1 t2 z TI TO i1 i2 l1 l2 d xs ys i h) (k : ∀ b o, b ≠ d → h.get? b = some o → h'.get? b = some o) : ZAt t1 t2 z TI TO i1 i2 l1 l2 d xs ys i h' := by
  obtain ⟨n1, n2, n3, n4, n5, n6, n7⟩ := n
  obtain ⟨q1, q2, q3, q6⟩ := st
  refine ⟨k _ _ n2 q1, q2.at2 (fun o => k _ o n4) (fun o => k _ o n6), q3.at2 (fun o => k _ o n5) (fun o => k _ o n7), q6.imp ?_ ?_⟩
  · rintro ⟨w1, a, b, w2⟩
    exact ⟨k _ _ n1 w1, a, b, k _ _ n3 w2⟩
  · rintro ⟨T, f, oT, w1, w2, w3, w4⟩
    exact ⟨T, f, oT, k _ _ n1 w1, k _ _ w4 w2, w3, w4⟩
theorem ZAt.step {d : Addr} {i : Nat} {x y : Value} {Q : Option Value → Shared → Prop} (D : ZipApart z TI TO i1 i2 l1 l2) (st : ZAt t1 t2 z TI TO i1 i2 l1 l2 d xs ys i s.heap) (hd : d < s.heap.objs.size) (ex : xs[i]? = some x) (ey : ys[i]? = some y)
    (fin : ∀ T h', PairAt h' T x y → ZAt t1 t2 z TI TO i1 i2 l1 l2 d xs ys (i + 1) h' → (∀ b o, b ∉ [z, TO, i1, i2] → s.heap.get? b = some o → h'.get? b = some o) → Q (some (.ref T)) { s with heap := h' }) : wpAny (model prog w) A (pyNext (.ref z)) Q E s := by
  obtain ⟨q1, q2, q3, q6⟩ := st
  have big : ∀ {c o}, s.heap.get? c = some o → s.heap.objs.size ≠ c := fun e => Nat.ne_of_gt (Heap.lt_size e)
  have f1 : s.heap.objs.size ≠ i1 := by obtain ⟨_, e⟩ := q2.itAt; exact big e
  have f2 : s.heap.objs.size ≠ i2 := by obtain ⟨_, e⟩ := q3.itAt; exact big e
  rcases q6 with ⟨w1, a, b, w2⟩ | ⟨T, f, oT, w1, w2, ⟨w3, w4, w5⟩, w6⟩
  · refine loose_py D ⟨w1, q1, w2, q2, q3⟩ ex ey ?_
    intro h' c1 c3 c4 c5 _ kp
    refine fin _ _ (.inl ⟨_, c5, rfl, _, rfl⟩) ⟨kp _ _ D.TIz D.TITO D.TIi1 D.TIi2 q1, c3, c4, .inr ⟨_, false, _, c1, c5, ⟨big w1, f1, f2⟩, Nat.ne_of_gt hd⟩⟩ ?_
    intro c o hc e
    simp only [List.mem_cons, List.not_mem_nil, or_false, not_or] at hc
    exact kp c o hc.1 hc.2.1 hc.2.2.1 hc.2.2.2 e
  · refine held_py D ⟨w1, w2, q1, q2, q3⟩ ex ey ?_
    intro h' c1 c3 c4 c5 kp
    refine fin _ _ (.inl ⟨_, c5, rfl, _, rfl⟩) ⟨kp _ _ D.TIz D.TIi1 D.TIi2 q1, c3, c4, .inr ⟨T, true, oT, c1, kp _ _ w3 w4 w5 w2, ⟨w3, w4, w5⟩, w6⟩⟩ ?_
    intro c o hc e
    simp only [List.mem_cons, List.not_mem_nil, or_false, not_or] at hc
    exact kp c o hc.1 hc.2.2.1 hc.2.2.2 e
theorem ZAt.stop {d : Addr} {i : Nat} {Q : Option Value → Shared → Prop} (hh : A.handled = none) (D : ZipApart z TI TO i1 i2 l1 l2) (st : ZAt t1 t2 z TI TO i1 i2 l1 l2 d xs ys i s.heap) (e : xs[i]? = none ∨ ys[i]? = none)
    (fin : ∀ h', (∀ b o, b ∉ [z, TO, i1, i2] → s.heap.get? b = some o → h'.get? b = some o) → Q none { s with heap := h' }) : wpAny (model prog w) A (pyNext (.ref z)) Q E s := by
  obtain ⟨q1, q2, q3, q6⟩ := st
  rcases q6 with ⟨w1, a, b, w2⟩ | ⟨T, f, oT, w1, w2, ⟨w3, w4, w5⟩, w6⟩
  · refine loose_py_stop hh D ⟨w1, q1, w2, q2, q3⟩ e ?_
    intro h' kp
    refine fin h' ?_
    intro c o hc e
    simp only [List.mem_cons, List.not_mem_nil, or_false, not_or] at hc
    exact kp c o hc.1 hc.2.1 hc.2.2.1 hc.2.2.2 e
  · refine held_py_stop hh D ⟨w1, w2, q1, q2, q3⟩ e ?_
    intro h' kp
    refine fin h' ?_
    intro c o hc e
    simp only [List.mem_cons, List.not_mem_nil, or_false, not_or] at hc
    exact kp c o hc.1 hc.2.2.1 hc.2.2.2 e
def ZNew (t1 t2 : Bool) (z TI TO i1 i2 l1 l2 : Addr) (xs ys : Array Value) (h : Heap) : Prop :=
  (IsZip h z TI TO .none ∧ ∃ a b, IsPair h TO a b) ∧ IsPair h TI (.ref i1) (.ref i2) ∧ Crs t1 h i1 l1 0 xs ∧ Crs t2 h i2 l2 0 ys
theorem ZNew.at {h h' : Heap} (ok : ZNew t1 t2 z TI TO i1 i2 l1 l2 xs ys h) (k : ∀ b o, h.get? b = some o → h'.get? b = some o) : ZNew t1 t2 z TI TO i1 i2 l1 l2 xs ys h' := by
  obtain ⟨⟨w1, a, b, w2⟩, q1, q2, q3⟩ := ok
  exact ⟨⟨k _ _ w1, a, b, k _ _ w2⟩, k _ _ q1, q2.at2 (fun o => k _ o) fun o => k _ o, q3.at2 (fun o => k _ o) fun o => k _ o⟩
theorem zipX_arg (D : ZipApart z TI TO i1 i2 l1 l2) (e : xs.size = ys.size) : PairArg prog w "zip" z [z, TI, TO, i1, i2, l1, l2] [z, TO, i1, i2] xs.size (fun i k v => xs[i]? = some k ∧ ys[i]? = some v) (ZNew t1 t2 z TI TO i1 i2 l1 l2 xs ys) := by
  constructor
  case type => intro s ok; exact ⟨_, ok.1.1, rfl⟩
  case notDict => decide
  case keep => intro h h' ok k; exact ok.at k
  case there =>
    rintro h ⟨⟨w1, a, b, w2⟩, q1, q2, q3⟩ c hc
    simp only [List.mem_cons, List.not_mem_nil, or_false] at hc
    rcases hc with rfl | rfl | rfl | rfl | rfl | rfl | rfl
    · exact ⟨_, w1⟩
    · exact ⟨_, q1⟩
    · exact ⟨_, w2⟩
    · exact q2.itAt
    · exact q3.itAt
    · exact q2.srcAt
    · exact q3.srcAt
  case sub =>
    intro c hc
    simp only [List.mem_cons, List.not_mem_nil, or_false] at hc ⊢
    rcases hc with rfl | rfl | rfl | rfl <;> simp
  case noKeys => intro A s Q E hh ok fin; exact getAttrOr_miss_zip ok.1.1 rfl rfl rfl zip_no_keys (by decide +kernel) hh fin
  case iter =>
    intro A s d Q E hh ok hd off fin
    simp only [List.mem_cons, List.not_mem_nil, or_false, not_or] at off
    obtain ⟨n1, n2, n3, n4, n5, n6, n7⟩ := off
    refine wpAny_pyIter_zip ok.1.1 (fin z [z, TO, i1, i2] (ZAt t1 t2 z TI TO i1 i2 l1 l2 d xs ys) s.heap s.toks ?_ ⟨ok.2.1, ok.2.2.1, ok.2.2.2, .inl ok.1⟩ (fun _ _ e => e) fun _ => .inl)
    constructor
    case off =>
      simp only [List.mem_cons, List.not_mem_nil, or_false, not_or]
      exact ⟨n1, n3, n4, n5⟩
    case frame => intro i h h' st k; exact st.frame ⟨Ne.symm n1, Ne.symm n2, Ne.symm n3, Ne.symm n4, Ne.symm n5, Ne.symm n6, Ne.symm n7⟩ k
    case item =>
      intro i s1 Q1 E1 hi st hd1 fin1
      exact st.step D hd1 (Array.getElem?_eq_getElem hi) (Array.getElem?_eq_getElem (by rw [← e]; exact hi)) fun T h' p st' k => fin1 T _ _ h' s1.toks ⟨Array.getElem?_eq_getElem hi, Array.getElem?_eq_getElem (by rw [← e]; exact hi)⟩ p st' k
    case done =>
      intro s1 Q1 E1 st fin1
      exact st.stop hh D (.inl (Array.getElem?_eq_none (Nat.le_refl _))) fun h' k => fin1 h' s1.toks k
/-- zip(s, t) -/
theorem zip_laid {o1 o2 : Obj} {h h1 h2 h3 h4 h5 : Heap} (e1 : h1 = h.push o1) (e2 : h2 = h1.push o2) (e3 : h3 = h2.push { cls := .type "tuple", data := .seq #[.ref h.objs.size, .ref h1.objs.size] }) (e4 : h4 = h3.push { cls := .type "tuple", data := .seq #[.none, .none] })
    (e5 : h5 = h4.push { cls := .type "zip", data := .fields #[.none, .bool false, .bool false, .ref h2.objs.size, .ref h3.objs.size] }) (f1 : o1.isFreed = false) (f2 : o2.isFreed = false) (c1 : ∀ g : Heap, g.get? h.objs.size = some o1 → Srq t1 g l1 xs → Crs t1 g h.objs.size l1 0 xs) (c2 : ∀ g : Heap, g.get? (h.objs.size + 1) = some o2 → Srq t2 g l2 ys → Crs t2 g (h.objs.size + 1) l2 0 ys)
    (q1 : Srq t1 h l1 xs) (q2 : Srq t2 h l2 ys) : h4.objs.size = h.objs.size + 4 ∧ h5.objs.size = h.objs.size + 5 ∧ (∀ c o, h.get? c = some o → h5.get? c = some o) ∧ ZNew t1 t2 (h.objs.size + 4) (h.objs.size + 2) (h.objs.size + 3) h.objs.size (h.objs.size + 1) l1 l2 xs ys h5 := by
  have z1 : h1.objs.size = h.objs.size + 1 := by rw [e1, Heap.size_push]
  have z2 : h2.objs.size = h.objs.size + 2 := by rw [e2, Heap.size_push, z1]
  have z3 : h3.objs.size = h.objs.size + 3 := by rw [e3, Heap.size_push, z2]
  have z4 : h4.objs.size = h.objs.size + 4 := by rw [e4, Heap.size_push, z3]
  have z5 : h5.objs.size = h.objs.size + 5 := by rw [e5, Heap.size_push, z4]
  have u4 : ∀ c o, h4.get? c = some o → h5.get? c = some o := fun c o q => by rw [e5]; exact Heap.get?_push_of_some _ q
  have u3 : ∀ c o, h3.get? c = some o → h5.get? c = some o := fun c o q => u4 c o (by rw [e4]; exact Heap.get?_push_of_some _ q)
  have u2 : ∀ c o, h2.get? c = some o → h5.get? c = some o := fun c o q => u3 c o (by rw [e3]; exact Heap.get?_push_of_some _ q)
  have u1 : ∀ c o, h1.get? c = some o → h5.get? c = some o := fun c o q => u2 c o (by rw [e2]; exact Heap.get?_push_of_some _ q)
  have u0 : ∀ c o, h.get? c = some o → h5.get? c = some o := fun c o q => u1 c o (by rw [e1]; exact Heap.get?_push_of_some _ q)
  have p5 : h5.get? h4.objs.size = some { cls := .type "zip", data := .fields #[.none, .bool false, .bool false, .ref h2.objs.size, .ref h3.objs.size] } := by rw [e5]; exact Heap.get?_push_size _ rfl
  have p4 : h5.get? h3.objs.size = some { cls := .type "tuple", data := .seq #[.none, .none] } := u4 _ _ (by rw [e4]; exact Heap.get?_push_size _ rfl)
  have p3 : h5.get? h2.objs.size = some { cls := .type "tuple", data := .seq #[.ref h.objs.size, .ref h1.objs.size] } := u3 _ _ (by rw [e3]; exact Heap.get?_push_size _ rfl)
  have p2 : h5.get? h1.objs.size = some o2 := u2 _ _ (by rw [e2]; exact Heap.get?_push_size _ f2)
  have p1 : h5.get? h.objs.size = some o1 := u1 _ _ (by rw [e1]; exact Heap.get?_push_size _ f1)
  rw [z4, z2, z3] at p5
  rw [z3] at p4
  rw [z2, z1] at p3
  rw [z1] at p2
  exact ⟨z4, z5, u0, ⟨p5, _, _, p4⟩, p3, c1 _ p1 (q1.at fun o => u0 _ o), c2 _ p2 (q2.at fun o => u0 _ o)⟩
theorem meets_zipX (t1 t2 : Bool) (l1 l2 : Addr) (xs ys : Array Value) : Meets (Builtin.«zip.__new__» ⟨[.type "zip", .ref l1, .ref l2], []⟩) (fun _ R s => Srq t1 s.heap l1 xs ∧ Srq t2 s.heap l2 ys ∧
      ∀ h', ZNew t1 t2 (s.heap.objs.size + 4) (s.heap.objs.size + 2) (s.heap.objs.size + 3) s.heap.objs.size (s.heap.objs.size + 1) l1 l2 xs ys h' → h'.objs.size = s.heap.objs.size + 5 → (∀ c o, s.heap.get? c = some o → h'.get? c = some o) → R (.ok (.ret (.ref (s.heap.objs.size + 4)))) { s with heap := h' }) :=
  .of_wp fun prog w A R s h => by
    obtain ⟨hp, g, d, tk, os⟩ := s; obtain ⟨q1, q2, fin⟩ := h
    have hsub := sub_zip
    cases t1 with
    | true =>
      have Q1 : Heap.IsTuple (Shared.heap ⟨hp, g, d, tk, os⟩) l1 xs := q1
      cases t2 with
      | true =>
        have Q2 : Heap.IsTuple (Shared.heap ⟨hp.push { cls := .type "tuple_iterator", data := .fields #[.ref l1, .int 0 0] }, g, d, tk, os⟩) l2 ys := Heap.IsTuple.push q2 _
        wp_walk using wpAny_pyIter_tuple Q1, wpAny_pyIter_tuple Q2
        obtain ⟨k1, k2, k3, k4⟩ := zip_laid (o1 := { cls := .type "tuple_iterator", data := .fields #[.ref l1, .int 0 0] }) (o2 := { cls := .type "tuple_iterator", data := .fields #[.ref l2, .int 0 0] }) (t1 := true) (t2 := true) (l1 := l1) (l2 := l2) (xs := xs) (ys := ys) (h := hp) rfl rfl rfl rfl rfl rfl rfl (fun g e q => ⟨⟨_, e, rfl, rfl⟩, q⟩) (fun g e q => ⟨⟨_, e, rfl, rfl⟩, q⟩) q1 q2
        have r := fin _ k4 k2 k3
        dsimp only at r
        rw [← k1] at r
        exact ⟨_, rfl, r⟩
      | false =>
        have Q2 : Heap.IsList (Shared.heap ⟨hp.push { cls := .type "tuple_iterator", data := .fields #[.ref l1, .int 0 0] }, g, d, tk, os⟩) l2 ys := Heap.IsList.push q2 _
        wp_walk using wpAny_pyIter_tuple Q1, wpAny_pyIter_list Q2
        obtain ⟨k1, k2, k3, k4⟩ := zip_laid (o1 := { cls := .type "tuple_iterator", data := .fields #[.ref l1, .int 0 0] }) (o2 := { cls := .type "list_iterator", data := .fields #[.ref l2, .int 0 0] }) (t1 := true) (t2 := false) (l1 := l1) (l2 := l2) (xs := xs) (ys := ys) (h := hp) rfl rfl rfl rfl rfl rfl rfl (fun g e q => ⟨⟨_, e, rfl, rfl⟩, q⟩) (fun g e q => ⟨⟨_, e, rfl, rfl⟩, q⟩) q1 q2
        have r := fin _ k4 k2 k3
        dsimp only at r
        rw [← k1] at r
        exact ⟨_, rfl, r⟩
    | false =>
      have Q1 : Heap.IsList (Shared.heap ⟨hp, g, d, tk, os⟩) l1 xs := q1
      cases t2 with
      | true =>
        have Q2 : Heap.IsTuple (Shared.heap ⟨hp.push { cls := .type "list_iterator", data := .fields #[.ref l1, .int 0 0] }, g, d, tk, os⟩) l2 ys := Heap.IsTuple.push q2 _
        wp_walk using wpAny_pyIter_list Q1, wpAny_pyIter_tuple Q2
        obtain ⟨k1, k2, k3, k4⟩ := zip_laid (o1 := { cls := .type "list_iterator", data := .fields #[.ref l1, .int 0 0] }) (o2 := { cls := .type "tuple_iterator", data := .fields #[.ref l2, .int 0 0] }) (t1 := false) (t2 := true) (l1 := l1) (l2 := l2) (xs := xs) (ys := ys) (h := hp) rfl rfl rfl rfl rfl rfl rfl (fun g e q => ⟨⟨_, e, rfl, rfl⟩, q⟩) (fun g e q => ⟨⟨_, e, rfl, rfl⟩, q⟩) q1 q2
        have r := fin _ k4 k2 k3
        dsimp only at r
        rw [← k1] at r
        exact ⟨_, rfl, r⟩
      | false =>
        have Q2 : Heap.IsList (Shared.heap ⟨hp.push { cls := .type "list_iterator", data := .fields #[.ref l1, .int 0 0] }, g, d, tk, os⟩) l2 ys := Heap.IsList.push q2 _
        wp_walk using wpAny_pyIter_list Q1, wpAny_pyIter_list Q2
        obtain ⟨k1, k2, k3, k4⟩ := zip_laid (o1 := { cls := .type "list_iterator", data := .fields #[.ref l1, .int 0 0] }) (o2 := { cls := .type "list_iterator", data := .fields #[.ref l2, .int 0 0] }) (t1 := false) (t2 := false) (l1 := l1) (l2 := l2) (xs := xs) (ys := ys) (h := hp) rfl rfl rfl rfl rfl rfl rfl (fun g e q => ⟨⟨_, e, rfl, rfl⟩, q⟩) (fun g e q => ⟨⟨_, e, rfl, rfl⟩, q⟩) q1 q2
        have r := fin _ k4 k2 k3
        dsimp only at r
        rw [← k1] at r
        exact ⟨_, rfl, r⟩
theorem call_zipX {Q : Value → Shared → Prop} (q1 : Srq t1 s.heap l1 xs) (q2 : Srq t2 s.heap l2 ys)
    (fin : ∀ h', ZNew t1 t2 (s.heap.objs.size + 4) (s.heap.objs.size + 2) (s.heap.objs.size + 3) s.heap.objs.size (s.heap.objs.size + 1) l1 l2 xs ys h' → h'.objs.size = s.heap.objs.size + 5 → (∀ c o, s.heap.get? c = some o → h'.get? c = some o) → Q (.ref (s.heap.objs.size + 4)) { s with heap := h' }) :
    wpAny (model prog w) A (call (.type "zip") [.ref l1, .ref l2]) Q E s :=
  callType_new PySem.F.called_zip (by decide) (PySem.F.typeCall_zip_2 _ _) (PySem.F.newCall_zip_2 _ _) (fun obj => PySem.F.args_object_init_3 obj _ _) PySem.F.entry_zip_new (meets_zipX t1 t2 l1 l2 xs ys) ⟨q1, q2, fun h' z n k => ⟨⟨_, z.1.1, rfl⟩, fin h' z n k⟩⟩
end
end MV
set_option Elab.async false
set_option linter.all false
set_option maxRecDepth 100000
set_option maxHeartbeats 1000000
/-! Readings by mirrors: dicts made, asked, enlarged; sets; counting on. -/
namespace MV
open PySem PySem.Spec PyProof.Rows L2
section
variable {X : Cx} {K : Frg} {a b : Expr} {fa fb : Sx} {pos : Pos} {A A' A2 : Wd} {H H' H2 : Hp} {S S' : Sto} {Q : VK} {ρ : Envi} {σ : L2.St} {D : Ends}
theorem push_dic {ps : List (PyData × PyData)} {kvs : List (Key × V)} {p : Addr} (w : Wf K A S H2) (hp : H2 p = none) (r : RpD K A.V H2 kvs ps) : Wf K (A.push p) (S ++ [.dic ps]) (upd H2 p (.dK kvs)) :=
  w.new hp ⟨kvs, upd_same, r.mono (Ext.push hp w).kp⟩
theorem Post.dic {ps : List (PyData × PyData)} {kvs : List (Key × V)} {p : Addr} (h : Post K A H Q (.ok (.f (.dic ps)) S)) (e : Ext A H A H2) (w : Wf K A S H2) (hp : H2 p = none) (r : RpD K A.V H2 kvs ps) : Q (.ref p) (upd H2 p (.dK kvs)) :=
  h _ _ (e.trans (.laid hp)) (push_dic w hp r) (e.free w hp)
/-! ### dict(zip(s, t)) -/
def putAll (ps : List (PyData × PyData)) : List (Key × PyData) → List (PyData × PyData)
  | [] => ps
  | (k, y) :: r => putAll (putD ps k y) r
def keysOf : List PyData → Option (List Key)
  | [] => some []
  | x :: xs => match kOf x, keysOf xs with
    | some k, some ks => some (k :: ks)
    | _, _ => none
theorem keysOf_ok {L : List Addr} : ∀ {ds : List PyData} {ks : List Key} {xs : List V}, keysOf ds = some ks → RpL K L H xs ds → xs = ks.map kV
  | [], _, _, h, .nil => by cases h; rfl
  | d :: ds, ks, _, h, .cons r t => by
    unfold keysOf at h
    split at h
    · rename_i k js h1 h2
      cases h
      rw [List.map_cons, keysOf_ok h2 t, Rp.key r h1]
    · cases h
theorem putAll_ok {L : List Addr} : ∀ {ks : List Key} {xs : List V} {ds : List PyData} {kvs : List (Key × V)} {ps : List (PyData × PyData)}, RpD K L H kvs ps → RpL K L H xs ds → RpD K L H (mergeK kvs (ks.zip xs)) (putAll ps (ks.zip ds))
  | [], _, _, _, _, r, _ => by simpa [mergeK, putAll] using r
  | _ :: _, _, _, _, _, r, .nil => by simpa [mergeK, putAll] using r
  | k :: ks, _, _, _, _, r, .cons q t => by
    rw [List.zip_cons_cons, List.zip_cons_cons]
    exact putAll_ok (ks := ks) (r.put q) t
theorem KV_zip : ∀ {ks : List Key} {xs : List V} {us : List Value}, Vals xs us → KV (ks.zip xs) (ks.zip us)
  | [], _, _, _ => by simp; exact .nil
  | _ :: _, _, _, .nil => by simp; exact .nil
  | k :: ks, _, _, .cons r t => by
    rw [List.zip_cons_cons, List.zip_cons_cons]
    exact .cons ⟨rfl, r⟩ (KV_zip t)
def gDictZip : List Val → Sto → Res Val
  | [v, w], S => match seqOf S v, seqOf S w with
    | some q, some r => match keysOf q.2.1 with
      | some ks => if q.2.1.length = r.2.1.length then .ok (.f (.dic (putAll [] (ks.zip r.2.1)))) S else .no
      | none => .no
    | _, _ => .no
  | _, _ => .no
theorem seq_raw {t : Bool} {a : Addr} {xs : List V} {pins : List (Addr × Obj)} {s : Shared} (I : Inv X pins σ H s) (q : SqA X.K t H a xs) : ∃ its, Vals xs its ∧ Srq t s.heap a its.toArray ∧ (∃ o, s.heap.get? a = some o) ∧ xs.length ≤ sizeLine := by
  cases t with
  | true =>
    obtain ⟨its, r, p, z⟩ := I.tuple (show SqT X.K H a xs from q)
    exact ⟨its, r, p, ⟨_, p.choose_spec.1⟩, z⟩
  | false =>
    obtain ⟨its, r, p, z⟩ := I.list (show SqL X.K H a xs from q)
    obtain ⟨o, n, e, _⟩ := id p
    exact ⟨its, r, p.isList, ⟨o, e⟩, z⟩
theorem vals_get : ∀ {ks : List Key} {us : List Value}, Vals (ks.map kV) us → ∀ (i : Nat) (u : Value), us[i]? = some u → ∃ k, ks[i]? = some k ∧ RelV (kV k) u
  | [], _, .nil, i, u, h => by simp at h
  | k :: ks, _, .cons r t, 0, u, h => by simp at h; subst h; exact ⟨k, rfl, r⟩
  | k :: ks, _, .cons r t, i + 1, u, h => by simpa using vals_get t i u (by simpa using h)
theorem eDictZip {e1 e2 : Expr} {f : SA} {p p2 q : Pos} (hc : X.calm = true) (hg : Gl X "dict") (hm : X.mg "dict" = none) (hg2 : Gl X "zip") (hm2 : X.mg "zip" = none) (ha : PA X [e1, e2] (tAr X.K f))
    (hs : starEach [e1, e2] X.env = (false, eval e1 X.env) :: starEach [e2] X.env := by rfl) (hpl : (backTo q (starEach [e2] X.env)).any (·.1) = false := by rfl)
    (hs1 : starEach [.Call (.Name "zip" p2) [e1, e2] [] q] X.env = (false, eval (.Call (.Name "zip" p2) [e1, e2] [] q) X.env) :: starEach [] X.env := by rfl) : PE X (.Call (.Name "dict" p) [.Call (.Name "zip" p2) [e1, e2] [] q] [] pos) (tE X.K (evCall gDictZip f)) := by
  refine ⟨fun pins s σ H Q I h => ?_⟩
  obtain ⟨A, S, ρ, w, env, pq⟩ := h
  refine Call_ (ld_blt I hg hm PyProof.Rows.boot_dict ?_)
  refine PyProof.Rows.callWith_type1 (PyProof.Rows.args_cons ?_ hs1) hs1 rfl
  refine Call_ (ld_blt I hg2 hm2 PyProof.Rows.boot_zip (PyProof.Rows.callWith_type1 (thn (ha.run q pins s σ H (fun xs H1 => ∃ vs S1, Ext A H A H1 ∧ Wf X.K A S1 H1 ∧ RvL X.K A H1 xs vs ∧ Post X.K A H Q (gDictZip vs S1)) I
    ⟨A, S, ρ, w, env, PostA.seq (P := Post X.K A H Q) pq (fun h => h) (fun _ _ h => h) fun vs S1 xs H1 e1 w1 r1 p1 => ⟨vs, S1, e1, w1, r1, p1⟩⟩) fun us s1 ⟨xs, H1, I1, r1, vs, S1, x1, w1, r2, p1⟩ => ?_) hs hpl))
  unfold gDictZip at p1
  split at p1
  case h_2 => exact p1.elim
  rename_i v u
  split at p1
  case h_2 => exact p1.elim
  rename_i qa qb hqa hqb
  split at p1
  case h_2 => exact p1.elim
  rename_i ks hks
  split at p1
  case isFalse => exact p1.elim
  rename_i hl
  obtain ⟨t, ds, g⟩ := qa
  obtain ⟨t', es, g'⟩ := qb
  dsimp only at hks hl p1
  cases r2 with | cons r2 r3 =>
  cases r3 with | cons r3 r4 =>
  cases r4
  obtain ⟨a, ya, rfl, t2, l2⟩ := seq_at hqa w1 r2
  obtain ⟨b, yb, rfl, t3, l3⟩ := seq_at hqb w1 r3
  cases r1 with | cons q1 q2 =>
  cases q2 with | cons q2 q3 =>
  cases q3
  cases q1
  cases q2
  obtain ⟨its, rv, p1', ⟨o1, ho1⟩, z1⟩ := seq_raw I1 l2
  obtain ⟨its2, rv2, p2', ⟨o2, ho2⟩, z2⟩ := seq_raw I1 l3
  have ek := keysOf_ok hks t2
  subst ek
  have n1 : its.length = ks.length := by rw [← rv.length, List.length_map]
  have n2 : its2.length = its.length := by rw [← rv2.length, t3.length, ← hl, ← t2.length, rv.length]
  refine call_zipX p1' p2' fun h' hz hsz hk => PyProof.Rows.args_nil ?_
  have I2 : Inv X pins σ H1 { s1 with heap := h' } := I1.kept (t' := s1.toks) hk
  have arg := zipX_arg (prog := X.prog) (w := X.w) (t1 := t) (t2 := t') (PySem.W.ktu_apart s1.heap.objs.size _ _ (Heap.lt_size ho1) (Heap.lt_size ho2)) (xs := its.toArray) (ys := its2.toArray) (by simp [n2])
  refine PySem.call_dict_pairs (s := { s1 with heap := h' }) (knd := mixKind X.prog X.w) (kvs := ks.zip its2) arg (I2.ok.hd hc) hz ?_ ?_ fun h2 tk hd k2 => ?_
  · refine ⟨by simp [n1, n2], fun i key v ⟨g1, g2⟩ => ?_⟩
    obtain ⟨k, e1, e2⟩ := vals_get rv i key (by simpa using g1)
    refine ⟨k, ?_, kV_is e2⟩
    have g2 : its2[i]? = some v := by simpa using g2
    rw [List.getElem?_zip_eq_some]
    exact ⟨e1, g2⟩
  · rw [List.size_toArray, n1]
    rw [List.length_map] at z1
    exact z1
  · have kall : ∀ b u, s1.heap.get? b = some u → h2.get? b = some u := fun b u e => k2 b u (fun m => by
      have lt := Heap.lt_size e
      simp only [List.mem_cons, List.not_mem_nil, or_false] at m
      rcases m with e' | e' | e' | e' <;> rw [e'] at lt
      · exact Nat.not_lt.mpr (Nat.le_add_right _ _) lt
      · exact Nat.not_lt.mpr (Nat.le_add_right _ _) lt
      · exact Nat.lt_irrefl _ lt
      · exact Nat.not_lt.mpr (Nat.le_add_right _ _) lt) (hk b u e)
    have hm' : (h'.objs.size == sysModules) = false := beq_eq_false_iff_ne.mpr (Nat.ne_of_gt I2.big)
    have rel := KV_zip (ks := ks) rv2
    have z0 : ks.length ≤ sizeLine := by rw [List.length_map] at z1; exact z1
    have hlen : (mergeK [] (ks.zip yb)).length ≤ sizeLine := Nat.le_trans (length_mergeK (ks.zip yb) []) (by
      rw [List.length_nil, Nat.zero_add, rel.length, List.length_zip, n2, n1, Nat.min_self]
      exact z0)
    have big : s1.heap.objs.size ≤ h'.objs.size := by omega
    refine ⟨.ref h'.objs.size, _, I1.laid (t' := tk) (o := .dK (mergeK [] (ks.zip yb))) kall big (show ObjOk X.prog X.w _ _ _ (.dK _) from ⟨hlen, hm', merged [] (ks.zip its2), KV.merge rel .nil, hd⟩), rfl, ?_⟩
    exact p1.dic x1 w1 (I1.hok.fresh big) (putAll_ok .nil t3)
/-! ### {k: v, ..} -/
abbrev SD := Envi → Sto → Res (List (Key × PyData))
def VD (K : Frg) (L : List Addr) (H : Hp) : List (Key × V) → List (Key × PyData) → Prop := Paired fun p q => p.1 = q.1 ∧ Rp K L H p.2 q.2
theorem VD.put {L : List Addr} : ∀ {kvs : List (Key × V)} {qs : List (Key × PyData)} {lvs : List (Key × V)} {ps : List (PyData × PyData)}, VD K L H kvs qs → RpD K L H lvs ps → RpD K L H (mergeK lvs kvs) (putAll ps qs)
  | _, _, _, _, .nil, r => by simpa [mergeK, putAll] using r
  | (k, v) :: kvs, (j, y) :: qs, _, _, .cons ⟨e, q⟩ t, r => by
    have e : k = j := e
    subst e
    exact VD.put (kvs := kvs) (qs := qs) t (r.put q)
theorem VD.mono {L L' : List Addr} {kvs : List (Key × V)} {qs : List (Key × PyData)} (k : Kp L H L' H') (r : VD K L H kvs qs) : VD K L' H' kvs qs := Paired.mapP r fun _ _ h => ⟨h.1, h.2.mono k⟩
def PostD (K : Frg) (A : Wd) (H : Hp) (Q : List (V × V) → Hp → Prop) : Res (List (Key × PyData)) → Prop
  | .ok qs S => ∀ kvs H', Ext A H A H' → Wf K A S H' → VD K A.V H' kvs qs → Q (kvs.map fun kv => (kV kv.1, kv.2)) H'
  | .exc _ _ => False
  | .no => False
theorem PostD.seq {β : Type} {P : Res β → Prop} {Q : List (V × V) → Hp → Prop} {r : Res (List (Key × PyData))} {g : List (Key × PyData) → Sto → Res β} (h : P (r.bind g)) (h0 : P .no → False) (h1 : ∀ e S, P (.exc e S) → False)
    (k : ∀ qs S1 kvs H1, Ext A H A H1 → Wf K A S1 H1 → VD K A.V H1 kvs qs → P (g qs S1) → Q (kvs.map fun kv => (kV kv.1, kv.2)) H1) : PostD K A H Q r := by
  cases r with
  | ok v S1 => exact fun x H1 e w r => k v S1 x H1 e w r h
  | exc e S => exact (h1 _ _ h).elim
  | no => exact (h0 h).elim
def tD (K : Frg) (f : SD) : L2.St → Hp → (List (V × V) → Hp → Prop) → Prop := fun σ H Q => At K σ H fun A ρ S => PostD K A H Q (f ρ S)
def PD (X : Cx) (pos : Pos) (keys : List (Option Expr)) (values : List Expr) (f : SD) : Prop := ∃ trs, PPs X pos keys values trs ∧ ∀ σ H Q, tD X.K f σ H Q → tPairs trs σ H Q
def dNil : SD := fun _ S => .ok [] S
def dCons (fk fv : Sx) (g : SD) : SD := fun ρ S => (fk ρ S).bind fun v S1 => (fv ρ S1).bind fun w S2 => (g ρ S2).bind fun r S3 => match v.th, w.th with
  | .d x, .d y => match kOf x with
    | some k => .ok ((k, y) :: r) S3
    | none => .no
  | _, _ => .no
theorem ddN : PD X pos [] [] dNil := ⟨[], pps_nil, fun σ H Q ⟨A, S, ρ, w, env, p⟩ => p [] H .refl w .nil⟩
theorem ddC {k v : Expr} {ks : List (Option Expr)} {vs : List Expr} {fk fv : Sx} {g : SD} (hk : PE X k (tE X.K fk)) (hv : PE X v (tE X.K fv)) (hr : PD X pos ks vs g) : PD X pos (some k :: ks) (v :: vs) (dCons fk fv g) := by
  obtain ⟨trs, h1, h2⟩ := hr
  refine ⟨_, pps_cons hk hv h1, fun σ H Q ⟨A, S, ρ, w, env, p⟩ => ?_⟩
  refine at_seq (P := PostD X.K A H Q) w env p (fun h => h) (fun _ _ h => h) fun x S1 xv H1 e1 w1 r1 p1 => ?_
  refine at_seq (P := PostD X.K A H Q) w1 (env.mono e1) p1 (fun h => h) (fun _ _ h => h) fun y S2 yv H2 e2 w2 r2 p2 => ?_
  refine h2 _ _ _ ⟨A, S2, ρ, w2, (env.mono e1).mono e2, PostD.seq (P := PostD X.K A H Q) p2 (fun h => h) (fun _ _ h => h) fun qs S3 kvs H3 e3 w3 r3 p3 => ?_⟩
  split at p3
  case h_2 => exact p3.elim
  rename_i a b ha hb
  split at p3
  case h_2 => exact p3.elim
  rename_i k' hk'
  rw [ha] at r1
  rw [hb] at r2
  have r1 : Rp X.K A.V H1 xv a := r1
  have r2 : Rp X.K A.V H2 yv b := r2
  rw [Rp.key r1 hk']
  exact p3 ((k', yv) :: kvs) H3 ((e1.trans e2).trans e3) w3 (.cons ⟨rfl, r2.mono e3.kp⟩ r3)
def evDic (f : SD) : Sx := fun ρ S => (f ρ S).bind fun qs S1 => if qs.length ≤ 15 then .ok (.f (.dic (putAll [] qs))) S1 else .no
theorem eDic {keys : List (Option Expr)} {values : List Expr} {f : SD} (h : PD X pos keys values f) (hall : keys.all (·.isSome) = true := by rfl) (hl : keys.length = values.length := by rfl) (h0 : keys ≠ [] := by exact List.cons_ne_nil _ _)
    (h15 : keys.length ≤ 15 := by decide) : PE X (.Dict keys values pos) (tE X.K (evDic f)) := by
  obtain ⟨trs, h1, h2⟩ := h
  refine PEi (pe_disp h1 hall hl h0 h15) fun σ H Q ⟨A, S, ρ, w, env, p⟩ => fun q hq => ?_
  obtain ⟨wP, kP⟩ := w.protNew (u := .dK []) trivial hq
  refine h2 _ _ _ ⟨A.prot q, S, ρ, wP, env.kx kP, ?_⟩
  dsimp only [evDic] at p
  show PostD X.K (A.prot q) _ _ (f ρ S)
  cases hf : f ρ S with
  | no => rw [hf] at p; exact p
  | exc e S1 => rw [hf] at p; exact p
  | ok qs S1 =>
    rw [hf] at p
    have p : Post X.K A H Q (if qs.length ≤ 15 then .ok (.f (.dic (putAll [] qs))) S1 else .no) := p
    split at p
    case isFalse => exact p.elim
    rename_i hl15
    intro kvs H2 e2 w2 r2
    have nq : q ∉ (A.prot q).A := (w2.pr q (List.mem_cons_self)).1
    have at2 : H2 q = some (.dK []) := e2.keepP upd_same nq (List.mem_cons_self)
    refine ⟨at2, kvs, rfl, by rw [Paired.length r2]; exact hl15, ?_⟩
    obtain ⟨w3, k3⟩ := w2.protUpd (p := q) (u := .dK (mergeK [] kvs)) trivial (List.mem_cons_self)
    have e : Ext A H A (L2.upd H2 q (.dK (mergeK [] kvs))) := ⟨rfl, ⟨[], by simp⟩, fun _ h => .inl h, fun b o hb nb => by
      rw [upd_ne (ne_of_none hb hq)]
      obtain ⟨o', a1, a2, a3⟩ := e2.keep b o (by rw [upd_ne (ne_of_none hb hq)]; exact hb) nb
      exact ⟨o', a1, a2, fun m => a3 (List.mem_cons_of_mem _ m)⟩⟩
    exact p q _ e (w3.protOut (k := .dic _) ⟨_, upd_same, VD.put (r2.mono k3.2) .nil⟩ fun m => w.off hq (Wd.mem.mpr (.inl m))) hq
def evDic0 : Sx := fun _ S => .ok (.f (.dic [])) S
theorem eDic0 : PE X (.Dict [] [] pos) (tE X.K evDic0) := PEi pe_dnewK fun σ H Q ⟨A, S, ρ, w, env, p⟩ => fun q hq => p.dic .refl w hq .nil
/-! ### d.get(k), d.get(k, x) -/
def gGet (v : Val) (vs : List Val) (S : Sto) : Res Val := match asM S v, vs with
  | some ps, [.d x] => match kOf x with
    | some k => .ok (.d ((look ps k).getD .none)) S
    | none => .no
  | some ps, [.d x, .d y] => match kOf x with
    | some k => .ok (.d ((look ps k).getD y)) S
    | none => .no
  | _, _ => .no
theorem mGet (hu : X.A.units + 100 < cLine) : MRul X "dict.get" gGet := by
  intro pins s σ A S H x xs u us v vs Q I wf rv rvs ru rus p
  unfold gGet at p
  split at p
  case h_3 => exact p.elim
  · rename_i ps y hps
    split at p
    case h_2 => exact p.elim
    rename_i k hk
    cases rvs with | cons r1 r2 =>
    cases r2
    obtain ⟨a, kvs, rfl, h1, h2⟩ := asM_ok wf rv hps
    have r1 : Rp X.K A.V H _ y := r1
    have e := Rp.key r1 hk
    subst e
    cases ru
    obtain ⟨u, rfl, ru⟩ := vals1 rus
    refine d_get1 (A := X.A) (o := valV kvs k) (by omega) I (dget_rd h1) ru fun w' s' I' rw' => ⟨_, H, I', rw', ?_⟩
    rcases look_ok (k := k) h2 with ⟨g1, g2⟩ | ⟨d, z, g1, g2, g3⟩
    · rw [g1] at p; rw [g2]; exact p _ H .refl wf .non
    · rw [g1] at p; rw [g2]; exact p _ H .refl wf g3
  · rename_i ps y z hps
    split at p
    case h_2 => exact p.elim
    rename_i k hk
    cases rvs with | cons r1 r2 =>
    cases r2 with | cons r2 r3 =>
    cases r3
    obtain ⟨a, kvs, rfl, h1, h2⟩ := asM_ok wf rv hps
    have r1 : Rp X.K A.V H _ y := r1
    have r2 : Rp X.K A.V H _ z := r2
    have e := Rp.key r1 hk
    subst e
    cases ru
    cases rus with | cons ru ru2 =>
    cases ru2 with | cons ru2 ru3 =>
    cases ru3
    refine d_get2 (A := X.A) (o := valV kvs k) (by omega) I (dget_rd h1) ru ru2 fun w' s' I' rw' => ⟨_, H, I', rw', ?_⟩
    rcases look_ok (k := k) h2 with ⟨g1, g2⟩ | ⟨d, z', g1, g2, g3⟩
    · rw [g1] at p; rw [g2]; exact p _ H .refl wf r2
    · rw [g1] at p; rw [g2]; exact p _ H .refl wf g3
/-! ### pairs as data -/
def pairsOf : List PyData → Option (List (Key × PyData))
  | [] => some []
  | .tuple [x, y] :: r => match kOf x, pairsOf r with
    | some k, some qs => some ((k, y) :: qs)
    | _, _ => none
  | _ => none
theorem pairsOf_ok : ∀ {ds : List PyData} {qs : List (Key × PyData)} {xs : List V}, pairsOf ds = some qs → RpL K A.V H xs ds → ∃ (ps : List Addr) (kvs : List (Key × V)), xs = ps.map V.ref ∧ Paired (fun p kv => SqT K H p [kV kv.1, kv.2]) ps kvs ∧ VD K A.V H kvs qs
  | [], _, _, h, .nil => by cases h; exact ⟨[], [], rfl, .nil, .nil⟩
  | d :: ds, qs, _, h, .cons r t => by
    unfold pairsOf at h
    split at h
    · rename_i h0; cases h0
    · rename_i x y r' h0
      cases h0
      split at h
      · rename_i k js h1 h2
        cases h
        obtain ⟨ps, kvs, e1, e2, e3⟩ := pairsOf_ok h2 t
        cases r with | tup l q =>
        cases q with | cons q1 q2 =>
        cases q2 with | cons q2 q3 =>
        cases q3
        have e := Rp.key q1 h1
        subst e
        subst e1
        exact ⟨_ :: ps, (k, _) :: kvs, rfl, .cons l.seq e2, .cons ⟨rfl, q2⟩ e3⟩
      · cases h
    · cases h
def gDict : List Val → Sto → Res Val
  | [v], S => match asM S v with
    | some ps => .ok (.f (.dic ps)) S
    | none => match (asL S v).bind pairsOf with
      | some qs => .ok (.f (.dic (putAll [] qs))) S
      | none => .no
  | _, _ => .no
theorem bDict (hc : X.calm = true) : BRul X (.type "dict") gDict := by
  intro pins s σ A S H xs us vs Q I wf rvs rus p
  unfold gDict at p
  split at p
  case h_2 => exact p.elim
  cases rvs with | cons r1 r2 =>
  cases r2
  split at p
  · rename_i ps hps
    obtain ⟨a, kvs, rfl, h1, h2⟩ := asM_ok wf r1 hps
    obtain ⟨u, rfl, ru⟩ := vals1 rus
    cases ru
    exact d_copyOf I h1 fun q s' hq I' => ⟨.ref q, _, I', rfl, p.dic .refl wf hq h2⟩
  · split at p
    case h_2 => exact p.elim
    rename_i qs hqs
    obtain ⟨ds, h1, h2⟩ := Option.bind_eq_some_iff.mp hqs
    obtain ⟨a, ys, rfl, h3, h4⟩ := asL_ok wf r1 h1
    obtain ⟨ps, kvs, e1, e2, e3⟩ := pairsOf_ok h2 h4
    subst e1
    exact call_dictP hc pins s σ H _ us Q I rus ⟨a, ps, kvs, rfl, SqL.of h3, e2, fun q hq => p.dic .refl wf hq (e3.put .nil)⟩
/-! ### tuple(range(..)), list(range(..)) -/
def rgD (a b : Int) : List PyData := (List.range (b - a).toNat).map fun i => PyData.int (a + (i : Nat))
theorem rgV_rp {L : List Addr} (a b : Int) : RpL K L H (rgV a b) (rgD a b) := by
  unfold rgV rgD
  generalize List.range (b - a).toNat = l
  induction l with
  | nil => exact .nil
  | cons i l ih => exact .cons (.int _) ih
def rgOk (a b : Int) : Bool := decide (0 ≤ a ∧ 0 ≤ b ∧ a ≤ 1000000 ∧ b ≤ 1000000)
theorem rgOk_ok {a b : Int} (h : rgOk a b = true) : RgOk a b := by
  have := of_decide_eq_true h
  exact RgOk.of_le (by omega) (by omega) (by omega) (by omega)
def evRg (f : SA) (g : Int → Int → Sto → Res Val) : Sx := fun ρ S => (f ρ S).bind fun vs S1 => match vs with
  | [.d (.int b)] => if rgOk 0 b = true then g 0 b S1 else .no
  | [.d (.int a), .d (.int b)] => if rgOk a b = true then g a b S1 else .no
  | _ => .no
def evTupleRange (f : SA) : Sx := evRg f fun a b S => .ok (.d (.tuple (rgD a b))) S
def evListRange (f : SA) : Sx := evRg f fun a b S => .ok (.f (.lst (rgD a b))) S
section
variable {e1 e2 : Expr} {f1 f2 : Sx} {p p2 q : Pos}
theorem rg1_ok {g : Int → Int → Sto → Res Val} {σ : L2.St} {Q : VK} {R : Int → Int → Hp → Prop} (h : tE K (evRg (aCons f1 aNil) g) σ H Q) (k : ∀ A S a b H1, Ext A H A H1 → Wf K A S H1 → RgOk a b → Post K A H Q (g a b S) → R a b H1) : tRg1 (tE K f1) σ H R := by
  obtain ⟨A, S, ρ, w, env, p⟩ := h
  refine at_seq (P := Post K A H Q) w env (p := (show Post K A H Q ((f1 ρ S).bind _) from ?_)) (g := fun v S1 => match ([v.th] : List Val) with
    | [.d (.int b)] => if rgOk 0 b = true then g 0 b S1 else .no
    | [.d (.int a), .d (.int b)] => if rgOk a b = true then g a b S1 else .no
    | _ => .no) (fun h => h) (fun _ _ h => h) fun v S1 x H1 e1 w1 r1 p1 => ?_
  · dsimp only [evRg, aCons, aNil] at p
    cases hf : f1 ρ S with
    | no => rw [hf] at p; exact p
    | exc e S => rw [hf] at p; exact p
    | ok v S1 => rw [hf] at p; exact p
  · split at p1
    · rename_i b hb
      split at p1
      case isFalse => exact p1.elim
      rename_i hok
      have hb : v.th = .d (.int b) := by simpa using hb
      rw [hb] at r1
      exact ⟨b, Rp.int_inv r1, k A S1 0 b H1 e1 w1 (rgOk_ok hok) p1⟩
    · rename_i a b hb
      simp at hb
    · exact p1.elim
theorem eTupleRange1 (hc : X.calm = true) (hg : Gl X "tuple") (hm : X.mg "tuple" = none) (hg2 : Gl X "range") (hm2 : X.mg "range" = none) (h : PE X e1 (tE X.K f1))
    (n1 : starEach [e1] X.env = (false, eval e1 X.env) :: starEach [] X.env := by rfl) (n2 : starEach [.Call (.Name "range" p2) [e1] [] q] X.env = (false, eval (.Call (.Name "range" p2) [e1] [] q) X.env) :: starEach [] X.env := by rfl) :
    PE X (.Call (.Name "tuple" p) [.Call (.Name "range" p2) [e1] [] q] [] pos) (tE X.K (evTupleRange (aCons f1 aNil))) :=
  PEi (pe_tupRgC hc hg hm (prg_1 hg2 hm2 h n1) n2) fun σ H Q h => rg1_ok h fun A S a b H1 e1 w1 ok p => ⟨ok, fun _ its hq => p.tup e1 w1 hq (rgV_rp _ _)⟩
theorem eListRange1 (hc : X.calm = true) (hg : Gl X "list") (hm : X.mg "list" = none) (hg2 : Gl X "range") (hm2 : X.mg "range" = none) (h : PE X e1 (tE X.K f1))
    (n1 : starEach [e1] X.env = (false, eval e1 X.env) :: starEach [] X.env := by rfl) (n2 : starEach [.Call (.Name "range" p2) [e1] [] q] X.env = (false, eval (.Call (.Name "range" p2) [e1] [] q) X.env) :: starEach [] X.env := by rfl) :
    PE X (.Call (.Name "list" p) [.Call (.Name "range" p2) [e1] [] q] [] pos) (tE X.K (evListRange (aCons f1 aNil))) :=
  PEi (pe_listRg hc hg hm (prg_1 hg2 hm2 h n1) n2) fun σ H Q h => rg1_ok h fun A S a b H1 e1 w1 ok p => ⟨ok, fun _ hq => p.lst e1 w1 hq (rgV_rp _ _)⟩
end
theorem rg2_ok {f1 f2 : Sx} {g : Int → Int → Sto → Res Val} {σ : L2.St} {Q : VK} {R : Int → Int → Hp → Prop} (h : tE K (evRg (aCons f1 (aCons f2 aNil)) g) σ H Q) (k : ∀ A S a b H1, Ext A H A H1 → Wf K A S H1 → RgOk a b → Post K A H Q (g a b S) → R a b H1) : tRg2 (tE K f1) (tE K f2) σ H R := by
  obtain ⟨A, S, ρ, w, env, p⟩ := h
  refine at_seq (P := Post K A H Q) w env (p := (show Post K A H Q ((f1 ρ S).bind _) from ?_)) (g := fun v S1 => (f2 ρ S1).bind fun u S2 => match ([v.th, u.th] : List Val) with
    | [.d (.int b)] => if rgOk 0 b = true then g 0 b S2 else .no
    | [.d (.int a), .d (.int b)] => if rgOk a b = true then g a b S2 else .no
    | _ => .no) (fun h => h) (fun _ _ h => h) fun v S1 x H1 e1 w1 r1 p1 => ?_
  · dsimp only [evRg, aCons, aNil] at p
    cases hf : f1 ρ S with
    | no => rw [hf] at p; exact p
    | exc e S => rw [hf] at p; exact p
    | ok v S1 =>
      rw [hf] at p
      cases hg : f2 ρ S1 with
      | no => simp only [Res.bind, hg] at p ⊢
              exact p
      | exc e S => simp only [Res.bind, hg] at p ⊢
                   exact p
      | ok u S2 => simp only [Res.bind, hg] at p ⊢
                   exact p
  · refine at_seq (P := Post K A H Q) w1 (env.mono e1) p1 (fun h => h) (fun _ _ h => h) fun u S2 y H2 e2 w2 r2 p2 => ?_
    split at p2
    · rename_i b hb
      simp at hb
    · rename_i a b hb
      split at p2
      case isFalse => exact p2.elim
      rename_i hok
      have hb : v.th = .d (.int a) ∧ u.th = .d (.int b) := by simpa using hb
      rw [hb.1] at r1
      rw [hb.2] at r2
      exact ⟨a, b, Rp.int_inv r1, Rp.int_inv r2, k A S2 a b H2 (e1.trans e2) w2 (rgOk_ok hok) p2⟩
    · exact p2.elim
section
variable {e1 e2 : Expr} {f1 f2 : Sx} {p p2 q : Pos}
theorem eTupleRange2 (hc : X.calm = true) (hg : Gl X "tuple") (hm : X.mg "tuple" = none) (hg2 : Gl X "range") (hm2 : X.mg "range" = none) (h : PE X e1 (tE X.K f1)) (h' : PE X e2 (tE X.K f2))
    (n1 : starEach [e1, e2] X.env = (false, eval e1 X.env) :: starEach [e2] X.env := by rfl) (n0 : starEach [e2] X.env = (false, eval e2 X.env) :: starEach [] X.env := by rfl) (np : (backTo q (starEach [e2] X.env)).any (·.1) = false := by rfl)
    (n2 : starEach [.Call (.Name "range" p2) [e1, e2] [] q] X.env = (false, eval (.Call (.Name "range" p2) [e1, e2] [] q) X.env) :: starEach [] X.env := by rfl) :
    PE X (.Call (.Name "tuple" p) [.Call (.Name "range" p2) [e1, e2] [] q] [] pos) (tE X.K (evTupleRange (aCons f1 (aCons f2 aNil)))) :=
  PEi (pe_tupRgC hc hg hm (prg_2 hg2 hm2 h h' n1 n0 np) n2) fun σ H Q h => rg2_ok h fun A S a b H1 e1 w1 ok p => ⟨ok, fun _ its hq => p.tup e1 w1 hq (rgV_rp _ _)⟩
end
/-! ### list.remove of any datum -/
open Classical in
noncomputable def gRemoveD (v : Val) (vs : List Val) (S : Sto) : Res Val := match cellL S v, vs with
  | some (n, ds), [.d d] => if SeqAt.shaped (.list ds) = true ∧ SeqAt.shaped d = true ∧ PyData.plainAll ds = true ∧ d.plain = true then match SeqAt.dataPlace ds d with
      | some j => .ok (.d .none) (S.set n (.lst (ds.eraseIdx j)))
      | none => .no
    else .no
  | _, _ => .no
theorem mRemoveD (hu : X.A.units + 100 < cLine) : MRul X "list.remove" gRemoveD := by
  intro pins s σ A S H x xs u us v vs Q I wf rv rvs ru rus p
  unfold gRemoveD at p
  split at p
  case h_2 => exact p.elim
  rename_i n ds d hc
  split at p
  case isFalse => exact p.elim
  rename_i c
  obtain ⟨c1, c2, c3, c4⟩ := c
  split at p
  case h_2 => exact p.elim
  rename_i j hj
  obtain ⟨a, ys, h1, h2, rfl, h3, h4⟩ := cellL_ok wf rv hc
  cases rvs with | cons r1 r2 =>
  cases r2
  have r1 : Rp X.K A.V H _ d := r1
  cases ru
  obtain ⟨u, rfl, ru⟩ := vals1 rus
  obtain ⟨z, its, n', rr, hl', ho⟩ := I.lstM h3
  obtain ⟨as, rx⟩ := Dp.reads I d _ u (Rp.dp d _ (SeqAt.canLay_of_shaped c2) r1) ru
  have cl : PyData.canLayAll0 ds = true := by simpa [PyData.canLay0] using SeqAt.canLay_of_shaped c1
  obtain ⟨bs, rs⟩ := Dp.readsAll I ds ys its (RpL.dp ds ys cl h4) rr
  have dd := SeqAt.depth_of_shaped c2
  refine SeqAt.remove_list_data (vs := its.toArray) ⟨_, ho, rfl, n', rfl⟩ (by simpa using rs) rx c3 c4 (by
    have : min (PyData.depthAll ds) d.depth ≤ 64 := Nat.le_trans (Nat.min_le_right _ _) dd
    omega) hj (by rw [List.size_toArray, ← rr.length]; exact z) ?_
  refine ⟨.non, _, I.lset (its' := its.eraseIdx j) (t' := s.toks) h3 ho ?_ (rr.eraseIdx j) ?_, rfl, p.put wf h1 (h4.eraseIdx j) .non⟩
  · show its.toArray.eraseIdxIfInBounds j = (its.eraseIdx j).toArray
    rw [List.eraseIdxIfInBounds_toArray]
  · exact Nat.le_trans (List.length_eraseIdx_le _ _) z
end
end MV
set_option Elab.async false
set_option linter.all false
set_option maxRecDepth 100000
set_option maxHeartbeats 1000000
/-! Readings by mirrors: dicts sorted, merged, told as lists. -/
namespace MV
open PySem PySem.Spec PyProof.Rows L2
section
variable {X : Cx} {K : Frg} {a b : Expr} {fa fb : Sx} {pos : Pos} {A A' A2 : Wd} {H H' H2 : Hp} {S S' : Sto} {Q : VK} {ρ : Envi} {σ : L2.St} {D : Ends}
/-! ### sorted(d), the keys whole numbers -/
theorem rpd_keys {L : List Addr} : ∀ {kvs : List (Key × V)} {ps : List (PyData × PyData)}, RpD K L H kvs ps → ps.map (·.1) = kvs.map fun p => kD p.1
  | _, _, .nil => rfl
  | _, _, .cons _ t => by rw [List.map_cons, List.map_cons, rpd_keys t]
theorem keys_int : ∀ {ks : List Key} {ns : List Int}, ks.map kD = ns.map .int → ks = ns.map Sum.inl
  | [], [], _ => rfl
  | [], _ :: _, h => by cases h
  | _ :: _, [], h => by cases h
  | k :: ks, n :: ns, h => by
    rw [List.map_cons, List.map_cons, List.cons.injEq] at h
    rw [List.map_cons, keys_int h.2]
    cases k with
    | inl i => have e := h.1; unfold kD at e; cases e; rfl
    | inr x => have e := h.1; unfold kD at e; cases e
def gSortedK : List Val → Sto → Res Val
  | [v], S => match (asM S v).bind fun ps => intsOf (ps.map (·.1)) with
    | some ns => if ns.length < 64 then .ok (.f (.lst ((ns.mergeSort fun a b => decide (a ≤ b)).map .int))) S else .no
    | none => .no
  | _, _ => .no
theorem isort_eq {ns ys : List Int} (h1 : ys.Perm ns) (h2 : ys.Pairwise (· ≤ ·)) : ys = ns.mergeSort fun a b => decide (a ≤ b) := by
  refine List.Perm.eq_of_pairwise (le := (· ≤ ·)) (fun a b _ _ h1 h2 => by omega) h2 ?_ (h1.trans (List.mergeSort_perm _ _).symm)
  have h := List.pairwise_mergeSort (le := fun (a b : Int) => decide (a ≤ b)) (fun a b c h1 h2 => by simp at h1 h2 ⊢; omega) (fun a b => by simp; omega) ns
  exact h.imp fun h => by simpa using h
theorem bSortedK (hc : X.calm = true) : BRul X (.builtin "sorted") gSortedK := by
  intro pins s σ A S H xs us vs Q I wf rvs rus p
  unfold gSortedK at p
  split at p
  case h_2 => exact p.elim
  rename_i v _
  cases rvs with | cons r1 r2 =>
  cases r2
  split at p
  case h_2 => exact p.elim
  rename_i ns hns
  split at p
  case isFalse => exact p.elim
  rename_i hl
  obtain ⟨ps, h1, h2⟩ := Option.bind_eq_some_iff.mp hns
  obtain ⟨a, kvs, rfl, h3, h4⟩ := asM_ok wf r1 h1
  have e := intsOf_ok h2
  rw [rpd_keys h4, show (kvs.map fun p => kD p.1) = (kvs.map (·.1)).map kD by simp] at e
  refine call_sortedDI hc pins s σ H _ us Q I rus ⟨a, kvs, ns, rfl, h3, keys_int e, hl, fun ys q hp hw hq => ?_⟩
  rw [isort_eq hp hw]
  exact p.fresh wf hq (RpL.of_ints _)
/-! ### d.update(pairs) -/
/-- the dict cell that v is -/
def cellM (S : Sto) : Val → Option (Nat × List (PyData × PyData))
  | .c n => match S[n]? with
    | some (.dic ds) => some (n, ds)
    | _ => none
  | _ => none
theorem cellM_ok {x : V} {v : Val} {n : Nat} {ds : List (PyData × PyData)} (w : Wf K A S H) (r : Rv K A H x v) (h : cellM S v = some (n, ds)) : ∃ a xs, A.A[n]? = some a ∧ a ∈ A.A ∧ x = .ref a ∧ H a = some (.dK xs) ∧ RpD K A.V H xs ds := by
  cases v with
  | c m =>
    have h : (match S[m]? with
      | some (.dic es) => some (m, es)
      | _ => none) = some (n, ds) := h
    split at h
    · rename_i es q
      cases h
      obtain ⟨a, h1, rfl⟩ := r
      obtain ⟨xs, h2, h3⟩ := w.ok n a _ h1 q
      exact ⟨a, xs, h1, List.mem_of_getElem? h1, rfl, h2, h3⟩
    · cases h
  | _ => cases h
def gUpdate (v : Val) (vs : List Val) (S : Sto) : Res Val := match cellM S v, vs with
  | some (n, ps), [w] => match (asL S w).bind pairsOf with
    | some qs => if ps.length + qs.length ≤ sizeLine then .ok (.d .none) (S.set n (.dic (putAll ps qs))) else .no
    | none => .no
  | _, _ => .no
theorem pairs_raw {pins : List (Addr × Obj)} {s : Shared} (I : Inv X pins σ H s) : ∀ {ps : List Addr} {kvs : List (Key × V)}, Paired (fun p kv => SqT X.K H p [kV kv.1, kv.2]) ps kvs →
    ∃ (prs : List (Key × Value)) (raw : List (Value × Value)), KV kvs prs ∧ prs.length = ps.length ∧ raw.length = ps.length ∧ ∀ (j : Nat) (k v : Value), raw[j]? = some (k, v) → ∃ (b : Addr) (kk : Key), ps[j]? = some b ∧ IsTup s.heap b #[k, v] ∧ prs[j]? = some (kk, v) ∧ keyIs kk k = true
  | [], _, .nil => ⟨[], [], .nil, rfl, rfl, fun j k v e => by simp at e⟩
  | _ :: _, _, .cons (a := p) (b := kv) h t => by
    obtain ⟨prs, raw, r, hl, hl2, hp⟩ := pairs_raw I t
    obtain ⟨its, rv, ht, _⟩ := I.tuple h
    obtain ⟨u, y, ei, ru, ry⟩ := vals2 rv
    subst ei
    refine ⟨(kv.1, y) :: prs, (u, y) :: raw, .cons ⟨rfl, ry⟩ r, by simp [hl], by simp [hl2], fun j k v e => ?_⟩
    cases j with
    | zero =>
      simp at e
      obtain ⟨rfl, rfl⟩ := e
      exact ⟨p, kv.1, rfl, ht, rfl, kV_is (P := X.prog) (w := X.w) ru⟩
    | succ j => exact hp j k v (by simpa using e)
theorem RpD.mono' {A : List Addr} {A' : List Addr} {kvs : List (Key × V)} {d : List (PyData × PyData)} (r : RpD K A H kvs d) (k : Kp A H A' H') : RpD K A' H' kvs d := RpD.mono k r
theorem mUpdate (hc : X.calm = true) : MRul X "dict.update" gUpdate := by
  intro pins s σ A S H x xs u us v vs Q I wf rv rvs ru rus p
  unfold gUpdate at p
  split at p
  case h_2 => exact p.elim
  rename_i n ps w hm
  split at p
  case h_2 => exact p.elim
  rename_i qs hqs
  split at p
  case isFalse => exact p.elim
  rename_i hl
  obtain ⟨a, kvs, ha, ma, rfl, h1, h2⟩ := cellM_ok wf rv hm
  cases rvs with | cons r1 r2 =>
  cases r2
  obtain ⟨ds, g1, g2⟩ := Option.bind_eq_some_iff.mp hqs
  obtain ⟨b, ys, rfl, g3, g4⟩ := asL_ok wf r1 g1
  obtain ⟨as, kvs2, e1, e2, e3⟩ := pairsOf_ok g2 g4
  subst e1
  obtain ⟨u2, rfl, ru2⟩ := vals1 rus
  cases ru
  cases ru2
  obtain ⟨z, hd, vs, rel, dd⟩ := dk_of I.hok h1
  obtain ⟨its, rv2, pl, hz⟩ := I.list (.inl (.inl g3))
  have ei := refs_at rv2
  subst ei
  obtain ⟨prs, raw, rel2, hl2, hl3, hpr⟩ := pairs_raw I e2
  obtain ⟨o, m, ho, hoc, hod, hdat⟩ := pl
  have lp := rel2.length
  have lq : kvs2.length = qs.length := Paired.length e3
  have l1 := rel.length
  have l2 := h2.length
  have off : ∀ T q (o' : Obj), s.heap.get? q = some o' → o'.cls = .type T → T ≠ "dict" → a ≠ q := fun T q o' e1 e2 ne e => by
    subst e
    obtain ⟨o2, h1, h2⟩ := dd.typeIs
    rw [e1] at h1
    cases h1
    rw [e2] at h2
    exact ne (by cases h2; rfl)
  have pq : ∀ j k v, raw[j]? = some (k, v) → as[j]? = some (as.getD j 0) ∧ IsTup s.heap (as.getD j 0) #[k, v] ∧ ∃ kk, prs[j]? = some (kk, v) ∧ keyIs kk k = true := fun j k v e => by
    obtain ⟨q, kk, e1, e2, e3, e4⟩ := hpr j k v e
    have e5 : as.getD j 0 = q := by rw [List.getD_eq_getElem?_getD, e1]; rfl
    rw [e5]
    exact ⟨e1, e2, kk, e3, e4⟩
  refine call_update_pairs (knd := mixKind X.prog X.w) (acc := vs) (kvs := prs) (PairArg.list b (as.map Value.ref).toArray (fun j => as.getD j 0) raw)
    (I.ok.hd hc) ⟨⟨o, m, ho, hoc, hod, hdat⟩, by simp [hl3], fun j k v e => ?_⟩ (fun hm => ?_) ⟨by omega, fun j k v e => ?_⟩ dd (by omega) fun h' tk dd' k => ?_
  · obtain ⟨e1, e2, _⟩ := pq j k v e
    exact ⟨by rw [List.getElem?_toArray, List.getElem?_map, e1]; rfl, .inl e2⟩
  · rcases List.mem_cons.mp hm with e | hm
    · exact off "list" b o ho hoc (by decide) e
    · obtain ⟨j, hj, e⟩ := List.mem_map.mp hm
      have hj := List.mem_range.mp hj
      obtain ⟨_, ⟨o', e1, e2, _⟩, _⟩ := pq j raw[j].1 raw[j].2 (List.getElem?_eq_getElem hj)
      exact off "tuple" _ o' e1 e2 (by decide) e.symm
  · obtain ⟨_, _, kk, e1, e2⟩ := pq j k v e
    exact ⟨kk, e1, e2⟩
  · have hlen : (mergeK kvs kvs2).length ≤ sizeLine := Nat.le_trans (length_mergeK kvs2 kvs) (by omega)
    have he : ∃ q, h'.get? a = some q := let ⟨q, _, _, hq, _⟩ := dd'; ⟨q, hq⟩
    refine ⟨.non, _, I.write (x := a) (e := a) (t' := tk) (by rw [h1]; exact True.intro) (.inl rfl) (fun b' q hb e => k b' q hb (by simp) e) he (dk_new hlen hd (KV.merge rel2 rel) dd'), rfl, ?_⟩
    have ry : Rp X.K A.V H .non .none := .non
    exact p .non _ (.upd ma) (wf.upd ha ⟨_, upd_same, (e3.put h2).mono' (kp_upd ma)⟩) .non
/-! ### list(d), list(d.values()) -/
def gListK : List Val → Sto → Res Val
  | [v], S => match asM S v with
    | some ps => .ok (.f (.lst (ps.map (·.1)))) S
    | none => .no
  | _, _ => .no
theorem rpl_keys {L : List Addr} : ∀ {kvs : List (Key × V)} {ps : List (PyData × PyData)}, RpD K L H kvs ps → RpL K L H (kvs.map fun p => kV p.1) (ps.map (·.1))
  | _, _, .nil => .nil
  | _, _, .cons (k := k) _ t => by
    refine .cons ?_ (rpl_keys t)
    cases k with
    | inl i => exact .int i
    | inr x => exact .str x
theorem rpl_vals {L : List Addr} : ∀ {kvs : List (Key × V)} {ps : List (PyData × PyData)}, RpD K L H kvs ps → RpL K L H (kvs.map (·.2)) (ps.map (·.2))
  | _, _, .nil => .nil
  | _, _, .cons r t => .cons r (rpl_vals t)
theorem bListK (hc : X.calm = true) : BRul X (.type "list") gListK := by
  intro pins s σ A S H xs us vs Q I wf rvs rus p
  unfold gListK at p
  split at p
  case h_2 => exact p.elim
  rename_i v _
  cases rvs with | cons r1 r2 =>
  cases r2
  split at p
  case h_2 => exact p.elim
  rename_i ps hps
  obtain ⟨a, kvs, rfl, h3, h4⟩ := asM_ok wf r1 hps
  exact call_listD hc pins s σ H _ us Q I rus ⟨a, kvs, rfl, h3, fun q hq => p.fresh wf hq (rpl_keys h4)⟩
/-- the view of a dict's values -/
def valsO (p a : Addr) : HO := .ext fun h => h.IsValuesView p a
def tVals (td : TE) : TE := fun σ H Q => td σ H fun x H1 => ∃ a kvs, x = .ref a ∧ Rd H1 a (.dK kvs) ∧ ∀ p, H1 p = none → Q (.ref p) (L2.upd H1 p (valsO p a))
theorem pe_vals {e : Expr} {td : TE} {apos cpos : Pos} (he : PE X e td) (hbase : attributeBase e "values" X.env (eval e X.env) = eval e X.env := by rfl) (hline : (apos.endLine == cpos.line) = true := by rfl) : PE X (.Call (.Attribute e "values" apos) [] [] cpos) (tVals td) := by
  refine ⟨fun pins s σ H Q I h => ?_⟩
  refine wpAny_Call_method (T := "dict") (id := "dict.values") hbase rfl hline F.plainAttrs_dict F.slot_dict_values F.type_dict_values (thn (he.run pins s σ H _ I h) fun u s1 ⟨x, H1, I1, rx, d, kvs, ex, hd, q⟩ => ?_)
  subst ex
  obtain rfl : u = Value.ref d := rx
  obtain ⟨z, hs, vs, rel, dd⟩ := dk_rd I1.hok hd
  obtain ⟨ep, hm⟩ := dd.dictAt
  refine ⟨dd.typeIs, dd.mapOf.noDict, ?_⟩
  have hv : (s1.heap.push { cls := .type "dict_values", data := .fields #[.ref d] }).IsValuesView s1.heap.objs.size d := ⟨_, Heap.get?_push_size _ rfl, rfl, rfl⟩
  have fin : EP X pins σ Q (.ref s1.heap.objs.size) { s1 with heap := s1.heap.push { cls := .type "dict_values", data := .fields #[.ref d] } } :=
    ⟨.ref s1.heap.objs.size, _, I1.laid (t' := s1.toks) (o := valsO s1.heap.objs.size d) (fun b o e => Heap.get?_push_of_some _ e) (Nat.le_refl _) ⟨hv, ⟨_, Heap.get?_push_size _ rfl⟩, fun h1 h2 w k => let ⟨o, ho, r⟩ := w; ⟨o, k o ho, r⟩⟩, rfl, q _ (I1.hok.fresh (Nat.le_refl _))⟩
  show wpAny _ _ (callWith cpos (.builtin "dict.values") [.ref d] [] []) _ X.xe s1
  exact method_meetsIn F.slot_dict_values F.entry_dict_values rfl (PySem.evalArgs_none ⟨rfl, dd.typeIs, F.args_dict_values_1 _, _, meets_dict_values (mixKind X.prog X.w) d hs, ⟨vs, dd⟩, fin⟩)
theorem cr_listV (hc : X.calm = true) : CallR X (.type "list") (fun xs H Q => ∃ p a kvs, xs = [.ref p] ∧ H p = some (valsO p a) ∧ Rd H a (.dK kvs) ∧ ∀ q, H q = none → Q (.ref q) (L2.upd H q (.lst (kvs.map (·.2))))) := by
  intro pins s σ H xs us Q I r h
  obtain ⟨p, a, kvs, e, hp, hk, q⟩ := h
  subst e
  obtain ⟨u, eu, rx⟩ := vals1 r
  subst eu
  obtain rfl : u = Value.ref p := rx
  obtain ⟨z, lo, vs, rk, hd⟩ := dk_rd I.hok hk
  obtain ⟨ep, hat⟩ := hd.dictAt
  have hl : kvs.length = vs.length := rk.length
  have hv : s.heap.IsValuesView p a := (show ObjOk X.prog X.w H s.heap p (valsO p a) from I.hok p _ hp).1
  refine PySem.W.kdl_call (PySem.W.kdl_values (knd := mixKind X.prog X.w) (kvs := vs) (ep := ep)) (I.ok.hd hc) ⟨hv, hat⟩ (by rw [← hl]; exact z) fun h' tk acc' c' hkeep hS hacc => ?_
  refine ⟨.ref s.heap.objs.size, L2.upd H s.heap.objs.size (.lst (kvs.map (·.2))), I.laid hkeep (Nat.le_refl _) (show ObjOk X.prog X.w _ _ _ (.lst (kvs.map (·.2))) from ⟨?_, acc'.toList, c', ?_, ?_⟩), rfl, q _ (I.hok.fresh (Nat.le_refl _))⟩
  · rw [List.length_map]; exact z
  · have el : acc'.toList.length = acc'.size := by simp
    refine vals_of_at (by rw [List.length_map, el, hacc.1, hl]) fun j x w h1 h2 => ?_
    obtain ⟨k, hky⟩ := hacc.2 j w (by rw [← Array.getElem?_toList]; exact h2)
    obtain ⟨y, g1, g2⟩ := KV.at' rk hky
    rw [List.getElem?_map, g1] at h1
    cases h1
    exact g2
  · rw [Array.toArray_toList]; exact hS
def evListVals (f : Sx) : Sx := fun ρ S => (f ρ S).bind fun v S1 => match asM S1 v.th with
  | some ps => .ok (.f (.lst (ps.map (·.2)))) S1
  | none => .no
theorem eListVals {e : Expr} {p apos cpos : Pos} (hc : X.calm = true) (hg : Gl X "list") (hm : X.mg "list" = none) (he : PE X e (tE X.K fa)) (hbase : attributeBase e "values" X.env (eval e X.env) = eval e X.env := by rfl) (hline : (apos.endLine == cpos.line) = true := by rfl) :
    PE X (.Call (.Name "list" p) [.Call (.Attribute e "values" apos) [] [] cpos] [] pos) (tE X.K (evListVals fa)) :=
  PEi (pe_callTy (cr_listV hc) hg hm (by decide +kernel) (pa_cons (pe_vals he hbase hline) pa_nil)) fun σ H Q ⟨A, S, ρ, w, env, p⟩ => at_seq (P := Post X.K A H Q) w env p (fun h => h) (fun _ _ h => h) fun v S1 x H1 e1 w1 r1 p1 => by
    split at p1
    · rename_i ps hps
      obtain ⟨a, kvs, rfl, h3, h4⟩ := asM_ok w1 r1 hps
      refine ⟨a, kvs, rfl, h3, fun q hq => ?_⟩
      have e2 := Ext.laid (W := A) (o := valsO q a) hq
      refine ⟨q, a, kvs, rfl, upd_same, (by
        rcases h3 with h3 | ⟨o, h3⟩
        · exact .inl (by rw [upd_ne (ne_of_none h3 hq)]; exact h3)
        · exact .inr ⟨o, by rw [upd_ne (ne_of_none h3 hq)]; exact h3⟩), fun z hz => ?_⟩
      refine Post.fresh (p1.shift (e1.trans e2) (w1.laid hq)) (w1.laid hq) hz ((rpl_vals h4).mono e2.kp)
    · exact p1.elim
end
end MV
set_option Elab.async false
set_option linter.all false
set_option maxRecDepth 100000
set_option maxHeartbeats 1000000
/-! Readings by mirrors: enumerate. -/
namespace PySem
theorem meets_enT (l : Addr) (its : Array Value) : Meets (Builtin.«enumerate.__new__» ⟨[.type "enumerate", .ref l], []⟩) (fun _ R s => s.heap.IsTuple l its ∧
    R (.ok (.ret (.ref (s.heap.push { cls := .type "tuple_iterator", data := .fields #[.ref l, .int 0 0] }).objs.size)))
      { s with heap := (s.heap.push { cls := .type "tuple_iterator", data := .fields #[.ref l, .int 0 0] }).push { cls := .type "enumerate", data := .fields #[.none, .bool false, .ref s.heap.objs.size, rawInt 0, .none, .none] } }) :=
  .of_wp fun prog w A R s h => by
    obtain ⟨hp, g, d, tk, os⟩ := s
    obtain ⟨hl, h⟩ := h
    have hsub := sub_enumerate
    have hL : Heap.IsTuple (Shared.heap ⟨hp, g, d, tk, os⟩) l its := hl
    wp_walk using wpAny_pyIter_tuple hL
    refine wpAny_stack_any (fun st => wpAny_pure ?_)
    split
    · rename_i c _ _ _ _ _
      cases (c == Value.type "enumerate") <;> (wp_walk using wpAny_pyIter_tuple hL; exact ⟨_, rfl, h⟩)
    · wp_walk using wpAny_pyIter_tuple hL
      exact ⟨_, rfl, h⟩
theorem call_enT {prog : Program} {w : World} {A : Around} {E : Value → Shared → Prop} {s : Shared} {l : Addr} {its : Array Value} {Q : Value → Shared → Prop} (hL : s.heap.IsTuple l its)
    (h : ∀ h', IsEnum h' (s.heap.objs.size + 1) s.heap.objs.size 0 .none → h'.IsTupleIter s.heap.objs.size l 0 → (∀ b o, s.heap.get? b = some o → h'.get? b = some o) → Q (.ref (s.heap.objs.size + 1)) { s with heap := h' }) :
    wpAny (model prog w) A (call (.type "enumerate") [.ref l]) Q E s := by
  refine callType_new F.called_enumerate (by decide) (F.typeCall_enumerate_1 _) (F.newCall_enumerate_1 _) (fun obj => F.args_object_init_2 obj _) F.entry_enumerate_new (meets_enT l its) ⟨hL, ?_⟩
  generalize hI : ({ cls := .type "tuple_iterator", data := .fields #[.ref l, .int 0 0] } : Obj) = oI
  generalize hE : ({ cls := .type "enumerate", data := .fields #[.none, .bool false, .ref s.heap.objs.size, rawInt 0, .none, .none] } : Obj) = oE
  have hz : (s.heap.push oI).objs.size = s.heap.objs.size + 1 := Heap.size_push ..
  have he : ((s.heap.push oI).push oE).get? (s.heap.objs.size + 1) = some oE := by
    have q := Heap.get?_push_size (s.heap.push oI) (o := oE) (by rw [← hE]; rfl)
    rw [hz] at q; exact q
  have hi : ((s.heap.push oI).push oE).get? s.heap.objs.size = some oI := Heap.get?_push_of_some _ (Heap.get?_push_size _ (by rw [← hI]; rfl))
  show _ ∧ _
  rw [hz]
  refine ⟨⟨_, he, by rw [← hE]⟩, h _ (by rw [← hE] at he ⊢; exact he) ⟨_, hi, by rw [← hI], by rw [← hI]; rfl⟩ fun b o x => Heap.get?_push_of_some _ (Heap.get?_push_of_some _ x)⟩
end PySem
namespace MV
open PySem PySem.Spec PyProof.Rows L2
/-- the tuple at a, each item in a new pair with its number -/
def IteT (K : Frg) (a : Addr) : It :=
  ⟨fun i H => ∃ (xs : List V) (x : V), SqT K H a xs ∧ xs[i]? = some x, fun i H v H' => ∃ T x its, v = .ref T ∧ H T = none ∧ H' = L2.upd H T (tupO its [.int (i : Nat), x]) ∧ ∀ xs, SqT K H a xs → xs[i]? = some x, fun i H => ∃ xs : List V, SqT K H a xs ∧ xs.length = i⟩
theorem turn_enT {P : Program} {w : World} {K : Frg} {elts : List Expr} {kk : Nat} {tpos : Pos} (a e it : Addr) :
    Turn P w K (.Tuple elts kk tpos) (IteT K a) [e, it] e (fun i h => (∃ old, IsEnum h e it ((i : Nat) : Int) old) ∧ h.IsTupleIter it a i ∧ e ≠ it) where
  mem := by simp
  obj := fun i h st b hb => by
    obtain ⟨⟨old, he⟩, ⟨o, ho, hc, hd⟩, _⟩ := st
    simp only [List.mem_cons, List.not_mem_nil, or_false] at hb
    rcases hb with rfl | rfl
    · exact ⟨_, he, fun v q => nomatch q⟩
    · refine ⟨o, ho, fun v q => ?_⟩
      rw [hd] at q; cases q
  keep := fun i h h' st k => by
    obtain ⟨⟨old, he⟩, hi, hne⟩ := st
    exact ⟨⟨old, k e (by simp) _ he⟩, hi.at (fun o q => k it (by simp) o q), hne⟩
  item := by
    intro X hP hw hK hc i pins s σ H E I hf st hg
    subst hP hw hK
    obtain ⟨⟨old, he⟩, hit, hne⟩ := st
    obtain ⟨xs, x, hq, hx⟩ := hg
    obtain ⟨its, rv, p, hz⟩ := I.tuple hq
    obtain ⟨u, hu, ru⟩ := rv.get hx
    have hel : e < s.heap.objs.size := Heap.lt_size he
    have hil : it < s.heap.objs.size := by obtain ⟨_, q, _⟩ := hit; exact Heap.lt_size q
    have hae : a ≠ e := fun z => by
      obtain ⟨o, e1, e2, _⟩ := p
      rw [z, he] at e1
      cases e1
      exact absurd (Value.type.inj e2) (by decide)
    have hai : a ≠ it := fun z => by
      obtain ⟨o, e1, e2, _⟩ := p
      obtain ⟨o', e3, e4, _⟩ := hit
      rw [z, e3] at e1
      cases e1
      rw [e4] at e2
      exact absurd (Value.type.inj e2) (by decide)
    have hlen : i < its.toArray.size := by
      have := (List.getElem?_eq_some_iff.mp hu).1
      simpa using this
    refine wpAny_pyNext_enum_itemD (Draws.tuple (A := X.A.in1) (I.ok.hd hc) it a hai its.toArray) he ⟨hit, p⟩ hlen hne (by simp [hne, Ne.symm hae]) fun y h' tk hy ho hst hT hsz hk => ?_
    have ey : y = u := by
      have hy : its.toArray[i]? = some y := hy
      rw [List.getElem?_toArray, hu] at hy
      cases hy; rfl
    subst ey
    refine ⟨_, rfl, wpAny_letOwnedTupleGo_enum (s := { s with heap := h', toks := tk + 1 }) ho fun h'' he' sb => ?_⟩
    have hT2 := (sb.2 _ (Nat.ne_of_gt hel)).trans hT
    have new : ObjOk X.prog X.w (L2.upd H s.heap.objs.size (tupO [.int i tk, y] [.int (i : Nat), x])) h'' s.heap.objs.size (tupO [.int i tk, y] [.int (i : Nat), x]) :=
      tupO_at two_le (.cons ⟨_, rfl⟩ (.cons ru .nil)) hT2
    have I1 : Inv X pins σ (L2.upd H s.heap.objs.size (tupO [.int i tk, y] [.int (i : Nat), x])) { s with heap := h'', toks := tk + 1 } := by
      refine I.turnedNew (ch := [e, it]) (fun b ob hb q => ?_) hf (Nat.le_refl _) new
      exact (sb.2 b (fun z => hb (by simp [z]))).trans (hk b ob (fun z => hb (by simp [z])) (fun z => hb (by simp [z])) q)
    refine ⟨.ref s.heap.objs.size, _, I1, rfl, ⟨_, x, _, rfl, I.hok.fresh (Nat.le_refl _), rfl, fun ys hy => ?_⟩, ⟨⟨y, ?_⟩, hst.1.at (fun o q => (sb.2 it (Ne.symm hne)).trans q), hne⟩, fun b hb => ?_⟩
    · rw [I.tuple_inj hy hq]; exact hx
    · rw [show ((i + 1 : Nat) : Int) = (i : Int) + 1 by omega]; exact he'
    · have hb' : b < s.heap.objs.size := by
        simp only [List.mem_cons, List.not_mem_nil, or_false] at hb
        rcases hb with rfl | rfl
        · exact hel
        · exact hil
      rw [upd_ne (Nat.ne_of_lt hb')]
      exact (hf b hb).1
  done := by
    intro X hP hw hK hc i pins s σ H E I hf st hg
    subst hP hw hK
    obtain ⟨⟨old, he⟩, hit, hne⟩ := st
    obtain ⟨xs, hq, hx⟩ := hg
    obtain ⟨its, rv, p, hz⟩ := I.tuple hq
    obtain ⟨f0, f1, f2, f3, f4, f5⟩ := hf it (by simp)
    have hae : a ≠ it := fun z => by
      obtain ⟨o, e1, e2, _⟩ := p
      obtain ⟨o', e3, e4, _⟩ := hit
      rw [z, e3] at e1
      cases e1
      rw [e4] at e2
      exact absurd (Value.type.inj e2) (by decide)
    have hn : its.toArray.size = i := by rw [List.size_toArray, ← rv.length]; exact hx
    refine wpAny_pyNext_enum_endD (Draws.tuple (A := X.A.in1) (I.ok.hd hc) it a hae its.toArray) he ⟨by rw [hn]; exact hit, p⟩ fun h' eb => ⟨rfl, ?_⟩
    exact I.turned (t' := s.toks) (fun b o hb q => eb b o hb q) f0 f1 f3 f4 f5
  self := fun A i s Q E st h => by
    obtain ⟨⟨_, he⟩, _⟩ := st
    exact wpAny_pyIter_enum he h
section
variable {X : Cx} {K : Frg} {a b : Expr} {fa fb : Sx} {pos : Pos} {A A' A2 : Wd} {H H' H2 : Hp} {S S' : Sto} {Q : VK} {ρ : Envi} {σ : L2.St} {D : Ends}
def enumD (ds : List PyData) : List PyData := ds.zipIdx.map fun p => .tuple [.int (p.2 : Nat), p.1]
theorem enumD_length (ds : List PyData) : (enumD ds).length = ds.length := by simp [enumD]
theorem enumD_get {ds : List PyData} {i : Nat} {d : PyData} (h : ds[i]? = some d) : (enumD ds)[i]? = some (.tuple [.int (i : Nat), d]) := by
  simp [enumD, List.getElem?_zipIdx, h]
def iEnm (f : Sx) : SI := fun ρ S => (f ρ S).bind fun v S1 => match seqOf S1 v.th with
  | some (_, ds, g) => .ok ⟨enumD ds, g⟩ S1
  | none => .no
theorem pair_num {x : V} {d : PyData} {T : Addr} {i : Nat} {its : List Value} (w : Wf K A S H) (hT : H T = none) (r : Rp K A.V H x d) : Ext A H A (L2.upd H T (tupO its [.int (i : Nat), x])) ∧ Wf K A S (L2.upd H T (tupO its [.int (i : Nat), x])) ∧ Rp K A.V (L2.upd H T (tupO its [.int (i : Nat), x])) (.ref T) (.tuple [.int (i : Nat), d]) :=
  pair_new w hT (.int _) r
theorem src_enum {v : Val} {S0 : Sto} {t : Bool} {ds : List PyData} {g : List (Nat × List PyData)} {a : Addr} (h : seqOf S0 v = some (t, ds, g)) : SrcW K (if t = true then IteT K a else IteC K a) ⟨enumD ds, g⟩ (fun A H => Rv K A H (.ref a) v) := by
  refine ⟨fun A H A' H' e r => r.kx e, fun i A S H hi w r gk => ?_, fun A S H w r gk => ?_, fun i A S H x H' hi w r gk y => ?_⟩
  all_goals obtain ⟨b, xs, eb, q, sq⟩ := seq_stand h w r gk
  all_goals cases eb
  · rw [enumD_length] at hi
    obtain ⟨y, hy, _⟩ := q.get (List.getElem?_eq_getElem hi)
    cases t with
    | true => exact ⟨xs, y, sq, hy⟩
    | false => exact ⟨xs, y, sq, hy⟩
  · rw [enumD_length]
    cases t with
    | true => exact ⟨xs, sq, q.length⟩
    | false => exact ⟨xs, sq, Nat.le_of_eq q.length⟩
  · have fin : ∃ T x' its, x = .ref T ∧ H T = none ∧ H' = L2.upd H T (tupO its [.int (i : Nat), x']) ∧ xs[i]? = some x' := by
      cases t with
      | true => obtain ⟨T, x', its, e1, e2, e3, f1⟩ := y; exact ⟨T, x', its, e1, e2, e3, f1 xs sq⟩
      | false => obtain ⟨T, x', its, e1, e2, e3, f1⟩ := y; exact ⟨T, x', its, e1, e2, e3, f1 xs sq⟩
    obtain ⟨T, x', its, rfl, hT, rfl, f1⟩ := fin
    obtain ⟨d, h1, r1⟩ := q.getV f1
    obtain ⟨n1, n2, n3⟩ := pair_num (i := i) (its := its) w hT r1
    exact ⟨_, enumD_get h1, n1, n2, n3⟩
theorem two_fp {pins : List (Addr × Obj)} {s : Shared} (I : Inv X pins σ H s) : ∀ b ∈ [s.heap.objs.size + 1, s.heap.objs.size], FpOk X pins H b := fun b hb => by
  have hle : s.heap.objs.size ≤ b := by
    simp only [List.mem_cons, List.not_mem_nil, or_false] at hb
    omega
  exact I.fpOk hle (I.hok.fresh hle)
theorem iEn {e : Expr} {f : Sx} {p tpos : Pos} {elts : List Expr} {kk : Nat} (hg : Gl X "enumerate") (hm : X.mg "enumerate" = none) (ha : PE X e (tE X.K f)) (hs : starEach [e] X.env = [(false, eval e X.env)] := by rfl) :
    PI X (.Tuple elts kk tpos) (.Call (.Name "enumerate" p) [e] [] pos) (tI X.K (iEnm f)) := ⟨fun pins s σ H R I h => by
  obtain ⟨A, S, ρ, w, env, p⟩ := h
  refine Call_ (ld_blt I hg hm boot_enumerate (PyProof.Rows.callWith_type1 (thn ((pa_cons ha pa_nil hs).run pos pins s σ H (fun xs H1 => ∃ a S1 v t ds g, xs = [.ref a] ∧ Wf X.K A S1 H1 ∧ Rv X.K A H1 (.ref a) v ∧ seqOf S1 v = some (t, ds, g) ∧ ∀ J B, SrcW X.K J ⟨enumD ds, g⟩ B → B A H1 → R J H1) I ⟨A, S, ρ, w, env, ?_⟩) fun us s1 ⟨vs, H1, I1, r1, a, S1, v, t, ds, g, ex, w1, ru, hq, q⟩ => ?_) hs rfl))
  · refine Post.seq (P := PostI X.K A H R) p (fun h => h) (fun _ _ h => h) fun v S1 x H1 e1 w1 r1 p1 => ?_
    split at p1
    · rename_i t ds g hq
      obtain ⟨a, xs, rfl, _, _⟩ := seq_at hq w1 r1
      exact ⟨a, S1, v.th, t, ds, g, rfl, w1, r1, hq, fun J B sw b => p1 J B H1 e1 w1 sw b⟩
    · exact p1.elim
  · subst ex
    cases r1 with | cons r rr =>
    cases rr
    cases r
    obtain ⟨b, xs, eb, _, sq⟩ := seq_at hq w1 ru
    cases eb
    have fin := q _ _ (src_enum hq) ru
    cases t with
    | true =>
      obtain ⟨its, rv, ht, hz⟩ := I1.tuple (show SqT X.K H1 a xs from sq)
      refine call_enT (show s1.heap.IsTuple a its.toArray from ht) fun h' he hit hk => wpAny_pyIter_enum he ?_
      have I2 : Inv X pins σ H1 { s1 with heap := h' } := I1.kept (t' := s1.toks) hk
      exact ⟨s1.heap.objs.size + 1, [s1.heap.objs.size + 1, s1.heap.objs.size], _, _, H1, rfl, I2, turn_enT a (s1.heap.objs.size + 1) s1.heap.objs.size, ⟨⟨.none, he⟩, hit, Nat.succ_ne_self _⟩, two_fp I1, fin⟩
    | false =>
      obtain ⟨its, rv, pl, hz⟩ := I1.list (show SqL X.K H1 a xs from sq)
      refine call_enumerate_list pl.isList fun h' he hit _ hk => wpAny_pyIter_enum he ?_
      have I2 : Inv X pins σ H1 { s1 with heap := h' } := I1.kept (t' := s1.toks) hk
      exact ⟨s1.heap.objs.size + 1, [s1.heap.objs.size + 1, s1.heap.objs.size], _, _, H1, rfl, I2, turn_enumC, ⟨⟨.none, he⟩, hit, Nat.succ_ne_self _⟩, two_fp I1, fin⟩⟩
end
end MV
set_option Elab.async false
set_option linter.all false
set_option maxRecDepth 100000
set_option maxHeartbeats 1000000
/-! Readings by mirrors: sorted(set(..)), len(set(..)). -/
namespace MV
open PySem PySem.Spec PyProof.Rows L2
/-! ### each once -/
section
variable {α : Type} [DecidableEq α]
def dd : List α → List α
  | [] => []
  | x :: xs => if x ∈ xs then dd xs else x :: dd xs
@[simp] theorem mem_dd {a : α} : ∀ {xs : List α}, a ∈ dd xs ↔ a ∈ xs
  | [] => by simp [dd]
  | x :: xs => by
    unfold dd
    split
    · rename_i h
      rw [mem_dd, List.mem_cons]
      exact ⟨.inr, fun q => q.elim (fun e => e ▸ h) id⟩
    · rw [List.mem_cons, List.mem_cons, mem_dd]
theorem nodup_dd : ∀ (xs : List α), (dd xs).Nodup
  | [] => .nil
  | x :: xs => by
    unfold dd
    split
    · exact nodup_dd xs
    · rename_i h
      exact List.nodup_cons.mpr ⟨by rw [mem_dd]; exact h, nodup_dd xs⟩
theorem dd_of_nodup : ∀ {xs : List α}, xs.Nodup → dd xs = xs
  | [], _ => rfl
  | x :: xs, h => by
    obtain ⟨h1, h2⟩ := List.nodup_cons.mp h
    unfold dd
    rw [if_neg h1, dd_of_nodup h2]
theorem dd_len : ∀ (xs : List α), (dd xs).length ≤ xs.length
  | [] => Nat.le_refl _
  | x :: xs => by
    unfold dd
    have := dd_len xs
    split
    · rw [List.length_cons]; omega
    · rw [List.length_cons, List.length_cons]; omega
theorem dd_full : ∀ {xs : List α}, (dd xs).length = xs.length → xs.Nodup
  | [], _ => .nil
  | x :: xs, h => by
    have h1 := dd_len xs
    unfold dd at h
    split at h
    · rw [List.length_cons] at h; omega
    · rename_i hx
      rw [List.length_cons, List.length_cons] at h
      exact List.nodup_cons.mpr ⟨hx, dd_full (by omega)⟩
end
def pairsI : List PyData → Option (List (Int × Int))
  | [] => some []
  | .tuple [.int a, .int b] :: r => (pairsI r).map ((a, b) :: ·)
  | _ :: _ => none
theorem pairsI_ok : ∀ {ds : List PyData} {ps : List (Int × Int)}, pairsI ds = some ps → ds = ps.map fun p => .tuple [.int p.1, .int p.2]
  | [], _, h => by cases h; rfl
  | d :: ds, ps, h => by
    unfold pairsI at h
    split at h
    · rename_i q; cases q
    · rename_i a b r e
      cases e
      cases q : pairsI ds with
      | none => rw [q] at h; cases h
      | some qs => rw [q] at h; cases h; rw [pairsI_ok q]; rfl
    · cases h
theorem pairsI_map : ∀ ps : List (Int × Int), pairsI (ps.map fun p => .tuple [.int p.1, .int p.2]) = some ps
  | [] => rfl
  | p :: ps => by
    show (pairsI (ps.map fun p => .tuple [.int p.1, .int p.2])).map ((p.1, p.2) :: ·) = _
    rw [pairsI_map ps]; rfl
def pleb (p q : Int × Int) : Bool := decide (p.1 < q.1 ∨ (p.1 = q.1 ∧ p.2 ≤ q.2))
section
variable {X : Cx} {K : Frg} {a b : Expr} {fa fb : Sx} {pos : Pos} {A A' A2 : Wd} {H H' H2 : Hp} {S S' : Sto} {Q : VK} {ρ : Envi} {σ : L2.St} {D : Ends}
/-! ### sorted(set(t)) of a tuple of whole numbers, sorted(set(l)) of a list of pairs from 0 to 999 -/
def gSorSet : Val → Sto → Res Val
  | .d (.tuple ds), S => match intsOf ds with
    | some ns => if ns.length < 60 then .ok (.f (.lst (((dd ns).mergeSort fun a b => decide (a ≤ b)).map .int))) S else .no
    | none => .no
  | v, S => match (asR S v).bind pairsI with
    | some ps => if ps.length < 64 ∧ ps.all (fun p => decide (0 ≤ p.1 ∧ p.1 < 1000 ∧ 0 ≤ p.2 ∧ p.2 < 1000)) = true then .ok (.f (.lst (((dd ps).mergeSort pleb).map fun p => .tuple [.int p.1, .int p.2]))) S else .no
    | none => .no
def evSortedSet (f : Sx) : Sx := fun ρ S => (f ρ S).bind fun v S1 => gSorSet v.th S1
theorem cr_setTI (hc : X.calm = true) : CallR X (.type "set") (fun xs H Q => ∃ (l : Addr) (ns : List Int), xs = [.ref l] ∧ SqT X.K H l (ns.map V.int) ∧ ns.length < 64 ∧ ∀ a c, H a = none → c ≤ ns.length → Q (.ref a) (L2.upd H a (SetO X.w a (fun j => decide (j ∈ ns)) c))) := by
  intro pins s σ H xs us Q I r h
  obtain ⟨l, ns, rfl, hl, hf, q⟩ := h
  rw [Vals.ref1 r]
  obtain ⟨its, rv, pl, hz⟩ := I.tuple hl
  refine call_set_tupI (P := X.prog) (w := X.w) ns (I.ok.hd hc) (show s.heap.IsTuple l its.toArray from pl) (by simpa using rv.ints) (by unfold scanBound; omega) fun h' tk c R hcn k => ?_
  exact ⟨.ref s.heap.objs.size, _, I.laid (t' := tk) k (Nat.le_refl _) (setO_new R), rfl, q _ c (I.hok.fresh (Nat.le_refl _)) hcn⟩
theorem pairs_addr {L : List Addr} : ∀ {ps : List (Int × Int)} {xs : List V}, RpL K L H xs (ps.map fun p => .tuple [.int p.1, .int p.2]) →
    ∃ ks : List (Addr × List Int), xs = ks.map (fun k => V.ref k.1) ∧ ks.map (·.2) = ps.map (fun p => [p.1, p.2]) ∧ ∀ k ∈ ks, Rp K L H (.ref k.1) (.tuple (k.2.map .int)) ∧ SqT K H k.1 (k.2.map V.int)
  | [], _, r => by cases r; exact ⟨[], rfl, rfl, fun k hk => by cases hk⟩
  | p :: ps, xs, r => by
    have r : RpL K L H xs (.tuple [.int p.1, .int p.2] :: ps.map fun p => .tuple [.int p.1, .int p.2]) := r
    cases r with | cons r1 r2 =>
    obtain ⟨ks, e1, e2, e3⟩ := pairs_addr r2
    have r1' := r1
    cases r1 with | tup l t =>
    rename_i a ys
    cases t with | cons t1 t =>
    cases t with | cons t2 t =>
    cases t
    cases t1
    cases t2
    refine ⟨(a, [p.1, p.2]) :: ks, by rw [e1]; rfl, by rw [List.map_cons, e2]; rfl, fun k hk => ?_⟩
    rcases List.mem_cons.mp hk with rfl | hk
    · exact ⟨r1', l.seq⟩
    · exact e3 k hk
def unL (l : List Int) : Int × Int := (l.getD 0 0, l.getD 1 0)
theorem code_lex {a b c d : Int} (h : TS.code 1000 [a, b] ≤ TS.code 1000 [c, d]) (b1 : 0 ≤ a ∧ a < 1000) (b2 : 0 ≤ b ∧ b < 1000) (b3 : 0 ≤ c ∧ c < 1000) (b4 : 0 ≤ d ∧ d < 1000) : pleb (a, b) (c, d) = true := by
  have e : ∀ x y : Int, TS.code 1000 [x, y] = x * 1000 + y := fun x y => by
    show x * 1000 ^ 1 + (y * 1000 ^ 0 + 0) = _
    simp
  rw [e, e] at h
  unfold pleb
  simp only [decide_eq_true_eq]
  omega
theorem pleb_anti {p q : Int × Int} (h1 : pleb p q = true) (h2 : pleb q p = true) : p = q := by
  unfold pleb at h1 h2
  simp only [decide_eq_true_eq] at h1 h2
  exact Prod.ext (by omega) (by omega)
theorem psort_eq {ys ps : List (Int × Int)} (h1 : ys.Perm ps) (h2 : ys.Pairwise fun p q => pleb p q = true) : ys = ps.mergeSort pleb := by
  refine List.Perm.eq_of_pairwise (le := fun p q => pleb p q = true) (fun a b _ _ h1 h2 => pleb_anti h1 h2) h2 ?_ (h1.trans (List.mergeSort_perm _ _).symm)
  refine List.pairwise_mergeSort (fun a b c h1 h2 => ?_) (fun a b => ?_) ps
  · unfold pleb at *
    simp only [decide_eq_true_eq] at *
    omega
  · unfold pleb
    simp only [Bool.or_eq_true, decide_eq_true_eq]
    omega
theorem sqT_laid {a b : Addr} {xs : List V} {o : HO} (h : SqT K H a xs) (hb : H b = none) : SqT K (L2.upd H b o) a xs := by
  rcases h with (h | ⟨o', h⟩) | h
  · exact .inl (.inl (by rw [upd_ne (ne_of_none h hb)]; exact h))
  · exact .inl (.inr ⟨o', by rw [upd_ne (ne_of_none h hb)]; exact h⟩)
  · exact .inr h
theorem eSortedSet {e : Expr} {f : Sx} {p p2 q : Pos} (hc : X.calm = true) (hu : X.A.units + 100 < cLine) (hg : Gl X "sorted") (hm : X.mg "sorted" = none) (hg2 : Gl X "set") (hm2 : X.mg "set" = none) (ha : PE X e (tE X.K f))
    (hs : starEach [e] X.env = (false, eval e X.env) :: starEach [] X.env := by rfl) : PE X (.Call (.Name "sorted" p) [.Call (.Name "set" p2) [e] [] q] [] pos) (tE X.K (evSortedSet f)) :=
  PEi (pe_callB (CallR.or (cr_sortedSet hc) (cr_sortedT hc)) hg hm (by decide +kernel) (pa_cons (pe_callTy (CallR.or (cr_setTI hc) (cr_setOfT hc (by omega))) hg2 hm2 (by decide +kernel) (pa_cons ha pa_nil hs) (by decide) (by decide) hs) pa_nil)) fun σ H Q ⟨A, S, ρ, w, env, p⟩ =>
  at_seq (P := Post X.K A H Q) w env p (fun h => h) (fun _ _ h => h) fun v S1 x H1 e1 w1 r1 p1 => by
    unfold gSorSet at p1
    split at p1
    · rename_i ds hv
      rw [hv] at r1
      split at p1
      case h_2 => exact p1.elim
      rename_i ns hns
      split at p1
      case isFalse => exact p1.elim
      rename_i hl
      have e := intsOf_ok hns
      subst e
      have r1 : Rp X.K A.V H1 x (.tuple (ns.map .int)) := r1
      cases r1 with | tup l t =>
      rename_i a xs
      have e := t.ints
      subst e
      refine .inl ⟨a, ns, rfl, l.seq, by omega, fun a2 c ha2 hcn => .inl ⟨a2, _, c, rfl, upd_same, by omega, fun ns' p3 h1 h2 h3 hp3 => ?_⟩⟩
      have e4 : ns' = (dd ns).mergeSort fun a b => decide (a ≤ b) := by
        refine isort_eq ?_ (h1.imp fun h => by omega)
        refine (List.perm_ext_iff_of_nodup (h1.imp fun h => by omega) (nodup_dd ns)).mpr fun k => ?_
        rw [h2, mem_dd, decide_eq_true_iff]
      rw [e4]
      have e5 := Ext.laid (W := A) (o := SetO X.w a2 (fun j => decide (j ∈ ns)) c) ha2
      exact Post.fresh (p1.shift (e1.trans e5) (w1.laid ha2)) (w1.laid ha2) hp3 (RpL.of_ints _)
    · split at p1
      case h_2 => exact p1.elim
      rename_i ps hps
      split at p1
      case isFalse => exact p1.elim
      rename_i hl
      obtain ⟨ds, g1, g2⟩ := Option.bind_eq_some_iff.mp hps
      obtain ⟨a, xs, rfl, g3, g4⟩ := asR_ok w1 r1 g1
      have e := pairsI_ok g2
      subst e
      obtain ⟨ks, e1', e2, e3⟩ := pairs_addr g4
      subst e1'
      have hlen : ks.length = ps.length := by
        have := congrArg List.length e2
        simpa using this
      have form : ∀ k ∈ ks, ∃ q ∈ ps, k.2 = [q.1, q.2] := fun k hk => by
        have : k.2 ∈ ks.map (·.2) := List.mem_map_of_mem hk
        rw [e2] at this
        obtain ⟨q, h1, h2⟩ := List.mem_map.mp this
        exact ⟨q, h1, h2.symm⟩
      have bd : ∀ q ∈ ps, (0 ≤ q.1 ∧ q.1 < 1000) ∧ 0 ≤ q.2 ∧ q.2 < 1000 := fun q hq => by
        have := List.all_eq_true.mp hl.2 q hq
        simp only [decide_eq_true_eq] at this
        omega
      refine .inr ⟨a, ks, rfl, g3, fun k hk => (e3 k hk).2, by omega, fun a2 L ha2 hL1 hL2 => .inr ⟨a2, L, 2, 1000, rfl, upd_same, fun k hk => ?_, by decide, fun k hk => ?_, fun L' p3 h1 h2 h3 h4 hp3 => ?_⟩⟩
      · exact sqT_laid (e3 k (hL1 k hk)).2 ha2
      · obtain ⟨q, hq, e4⟩ := form k (hL1 k hk)
        rw [e4]
        refine ⟨rfl, fun m hm => ?_⟩
        have := bd q hq
        simp at hm
        rcases hm with rfl | rfl
        · exact this.1
        · exact this.2
      · have formL : ∀ k ∈ L', ∃ q ∈ ps, k.2 = [q.1, q.2] := fun k hk => form k (hL1 k (h1.mem_iff.mp hk))
        have e5 : L'.map (fun k => unL k.2) = (dd ps).mergeSort pleb := by
          refine psort_eq ((List.perm_ext_iff_of_nodup ?_ (nodup_dd ps)).mpr fun q => ?_) ?_
          · rw [List.Nodup, List.pairwise_map]
            have h2' : L'.Pairwise fun k k' => k.2 ≠ k'.2 := List.pairwise_map.mp h2
            refine h2'.imp_of_mem fun {k k'} hk hk' ne e => ne ?_
            obtain ⟨q, _, q1⟩ := formL k hk
            obtain ⟨q', _, q2⟩ := formL k' hk'
            rw [q1, q2] at e ⊢
            simp [unL] at e
            rw [e.1, e.2]
          · rw [mem_dd]
            constructor
            · intro hq
              obtain ⟨k, hk, e⟩ := List.mem_map.mp hq
              obtain ⟨q', hq', e'⟩ := formL k hk
              rw [e'] at e
              rw [← e]; exact hq'
            · intro hq
              have m1 : ([q.1, q.2] : List Int) ∈ ks.map (·.2) := by rw [e2]; exact List.mem_map_of_mem (f := fun p : Int × Int => [p.1, p.2]) hq
              obtain ⟨k, hk, ek⟩ := List.mem_map.mp m1
              obtain ⟨k2, hk2, ek2⟩ := List.mem_map.mp (hL2 k hk)
              refine List.mem_map.mpr ⟨k2, h1.mem_iff.mpr hk2, ?_⟩
              have e7 : k2.2 = [q.1, q.2] := ek2.trans ek
              rw [e7]; rfl
          · rw [List.pairwise_map]
            refine h4.imp_of_mem fun {k k'} hk hk' h => ?_
            obtain ⟨q, hq, e⟩ := formL k hk
            obtain ⟨q', hq', e'⟩ := formL k' hk'
            rw [e, e'] at h
            rw [e, e']
            exact code_lex h (bd q hq).1 (bd q hq).2 (bd q' hq').1 (bd q' hq').2
        have e6 : ((dd ps).mergeSort pleb).map (fun p => PyData.tuple [.int p.1, .int p.2]) = L'.map fun k => .tuple (k.2.map .int) := by
          rw [← e5, List.map_map]
          refine List.map_congr_left fun k hk => ?_
          obtain ⟨q, _, e⟩ := formL k hk
          simp only [Function.comp, e]; rfl
        rw [e6] at p1
        have ex := Ext.laid (W := A) (o := SetTO X.prog X.w a2 L) ha2
        refine Post.fresh (p1.shift (e1.trans ex) (w1.laid ha2)) (w1.laid ha2) hp3 ?_
        have all : ∀ M : List (Addr × List Int), (∀ k ∈ M, k ∈ ks) → RpL X.K A.V (L2.upd H1 a2 (SetTO X.prog X.w a2 L)) (M.map fun q => V.ref q.1) (M.map fun k => PyData.tuple (k.2.map .int)) := by
          intro M
          induction M with
          | nil => intro _; exact .nil
          | cons k M ih =>
            intro h
            exact .cons ((e3 k (h k (by simp))).1.mono ex.kp) (ih fun k' hk' => h k' (List.mem_cons_of_mem _ hk'))
        exact all L' fun k hk => hL1 k (h1.mem_iff.mp hk)
/-! ### len(set(l)) of a list of whole numbers -/
theorem first_nodup (val : Nat → Int) : ∀ i, (firstMet val i).Nodup
  | 0 => by rw [firstMet_zero]; exact .nil
  | i + 1 => by
    have ih := first_nodup val i
    rw [firstMet_succ]
    unfold step_dedup
    split
    · exact ih
    · rename_i h
      rw [List.nodup_append]
      refine ⟨ih, by simp, fun x hx y hy e => h ?_⟩
      rw [List.mem_singleton.mp hy] at e
      subst e
      exact List.any_eq_true.mpr ⟨_, hx, by simp⟩
theorem first_len (ns : List Int) : (firstMet (fun i => ns.getD i 0) ns.length).length = (dd ns).length := by
  refine List.Perm.length_eq ((List.perm_ext_iff_of_nodup (first_nodup _ _) (nodup_dd ns)).mpr fun k => ?_)
  rw [mem_dd]
  have h := firstMet_any (fun i => ns.getD i 0) ns.length k
  have e : (List.range ns.length).map (fun i => ns.getD i 0) = ns := by
    refine List.ext_getElem (by simp) fun i h1 h2 => ?_
    simp [List.getD_eq_getElem?_getD, List.getElem?_eq_getElem h2]
  rw [e] at h
  have g : ∀ l : List Int, l.any (· == k) = true ↔ k ∈ l := fun l => by simp
  rw [← g, ← g, h]
def evLenSet (f : Sx) : Sx := fun ρ S => (f ρ S).bind fun v S1 => match (asR S1 v.th).bind intsOf with
  | some ns => if ns.length ≤ 4000 then .ok (.d (.int (dd ns).length)) S1 else .no
  | none => .no
theorem cr_setLI (hc : X.calm = true) : CallR X (.type "set") (fun xs H Q => ∃ (l : Addr) (ns : List Int), xs = [.ref l] ∧ SqL X.K H l (ns.map V.int) ∧ ns.length ≤ 4000 ∧ ∀ a, H a = none → Q (.ref a) (L2.upd H a (.set (fun j => (firstMet (fun i => ns.getD i 0) ns.length).any (· == j)) (dd ns).length))) := by
  intro pins s σ H xs us Q I r h
  obtain ⟨l, ns, rfl, hl, hf, q⟩ := h
  rw [Vals.ref1 r]
  obtain ⟨its, rv, pl, hz⟩ := I.list hl
  have hn : its.toArray.size = ns.length := by rw [List.size_toArray, ← rv.length, List.length_map]
  refine call_set_list (I.ok.hd hc) pl.isList (ns := ns) (by simpa using rv.ints) (by unfold scanBound; omega) fun h' tk hS k => ?_
  rw [hn, first_len] at hS
  exact ⟨.ref s.heap.objs.size, _, I.laid (t' := tk) (fun b o e => k b o (Heap.lt_size e) e) (Nat.le_refl _) (show ObjOk X.prog X.w _ _ _ (.set _ _) from hS), rfl, q _ (I.hok.fresh (Nat.le_refl _))⟩
theorem cr_lenSetI : CallR X (.builtin "len") (fun xs H Q => ∃ (a : Addr) (T : Int → Bool) (n : Nat), xs = [.ref a] ∧ H a = some (.set T n) ∧ n ≤ 4000 ∧ Q (.int n) H) := by
  intro pins s σ H xs us Q I r h
  obtain ⟨a, T, n, rfl, ha, hn, q⟩ := h
  rw [Vals.ref1 r]
  have hS : s.heap.SetOf (intKind X.prog X.w) a T n := I.hok a _ ha
  obtain ⟨o, es, ep, t, ho, hex, hd, _, _, _, hf, hn2⟩ := hS
  refine call_len_set ho hex hd hf (by rw [hn2]; omega) ⟨.int n, H, I.tok _, ⟨_, by rw [hn2]⟩, q⟩
theorem eLenSet {e : Expr} {f : Sx} {p p2 q : Pos} (hc : X.calm = true) (hu : X.A.units + 100 < cLine) (hg : Gl X "len") (hm : X.mg "len" = none) (hg2 : Gl X "set") (hm2 : X.mg "set" = none) (ha : PE X e (tE X.K f))
    (hs : starEach [e] X.env = (false, eval e X.env) :: starEach [] X.env := by rfl) : PE X (.Call (.Name "len" p) [.Call (.Name "set" p2) [e] [] q] [] pos) (tE X.K (evLenSet f)) :=
  PEi (pe_callB cr_lenSetI hg hm (by decide +kernel) (pa_cons (pe_callTy (cr_setLI hc) hg2 hm2 (by decide +kernel) (pa_cons ha pa_nil hs) (by decide) (by decide) hs) pa_nil)) fun σ H Q ⟨A, S, ρ, w, env, p⟩ =>
  at_seq (P := Post X.K A H Q) w env p (fun h => h) (fun _ _ h => h) fun v S1 x H1 e1 w1 r1 p1 => by
    split at p1
    case h_2 => exact p1.elim
    rename_i ns hns
    split at p1
    case isFalse => exact p1.elim
    rename_i hl
    obtain ⟨ds, g1, g2⟩ := Option.bind_eq_some_iff.mp hns
    obtain ⟨a, xs, rfl, g3, g4⟩ := asR_ok w1 r1 g1
    have e := intsOf_ok g2
    subst e
    have e := g4.ints
    subst e
    have hdd := dd_len ns
    refine ⟨a, ns, rfl, g3, hl, fun a2 ha2 => ⟨a2, _, _, rfl, upd_same, by omega, ?_⟩⟩
    have ex := Ext.laid (W := A) (o := HO.set (fun j => (firstMet (fun i => ns.getD i 0) ns.length).any (· == j)) (dd ns).length) ha2
    exact p1 _ _ (e1.trans ex) (w1.laid ha2) (.int _)
end
end MV
set_option Elab.async false
set_option linter.all false
set_option maxRecDepth 100000
set_option maxHeartbeats 1000000
/-! Readings by mirrors: x[::-1]. -/
namespace MV
open PySem PySem.Spec PyProof.Rows L2 HT
section
variable {prog : Program} {w : World} {A : Around} {E : Value → Shared → Prop} {s : Shared}
theorem adj_rev (n : Nat) : Builtin.Slice.sliceAdjust none none (-1) (n : Int) = ((n : Int) - 1, -1) := by
  simp [Builtin.Slice.sliceAdjust]
theorem places_rev (n : Nat) : Builtin.Slice.slicePlaces ((n : Int) - 1) (-1) (-1) = n := by
  unfold Builtin.Slice.slicePlaces
  rw [if_neg (by decide)]
  by_cases h : (n : Int) - 1 > -1
  · rw [if_pos h, show (-(-1) : Int) = 1 by decide, Int.ediv_one]; omega
  · rw [if_neg h]; omega
theorem pick_rev (xs : Array Value) : ((List.range xs.size).filterMap fun (m : Nat) => xs[((xs.size : Int) - 1 + (m : Int) * (-1)).toNat]?).toArray = xs.toList.reverse.toArray := by
  have e : (fun (m : Nat) => xs[((xs.size : Int) - 1 + (m : Int) * (-1)).toNat]?) = fun m => xs[xs.size - 1 - m]? := by
    funext m
    rw [show ((xs.size : Int) - 1 + (m : Int) * (-1)).toNat = xs.size - 1 - m by omega]
  rw [e]
  have h := PySem.W.krv_range xs.size
  have h2 : (List.range xs.size).filterMap (fun m => xs[xs.size - 1 - m]?) = ((List.range xs.size).map fun k => xs.size - 1 - k).filterMap (xs[·]?) := by
    rw [List.filterMap_map]; rfl
  rw [h2, h, List.filterMap_reverse, PySem.W.krv_all]
theorem applied_rev {sl : Addr} {vk : Value} {n : Nat} {Q : Int × Int × Nat → Shared → Prop} (hs : s.heap.IsSliceOf sl .none .none vk) (pk : IsPart vk (some (-1)))
    (h : Q ((n : Int) - 1, -1, n) s) : wpAny (model prog w) A (Builtin.Slice.sliceApplied (.ref sl) (pure (n : Int))) Q E s := by
  obtain ⟨os, hos, hcs, hds⟩ := id hs
  unfold Builtin.Slice.sliceApplied Builtin.Slice.sliceFields
  refine wpAny_bind (wpAny_bind (wpAny_field hos hds (x := .none) rfl (wpAny_bind (wpAny_field hos hds (x := .none) rfl (wpAny_bind (wpAny_field hos hds (x := vk) rfl (wpAny_pure ?_)))))))
  refine wpAny_bind (slicePart_ pk ?_)
  show wpAny _ _ (if ((-1 : Int) == 0) = true then _ else _) _ _ s
  rw [if_neg (by decide)]
  refine wpAny_bind (slicePart_none (wpAny_bind (slicePart_none (wpAny_bind (wpAny_pure ?_)))))
  show wpAny _ _ (match Builtin.Slice.sliceAdjust none none (-1) (n : Int) with | (lo, hi) => pure (lo, (-1 : Int), Builtin.Slice.slicePlaces lo hi (-1))) _ _ s
  rw [adj_rev n]
  show wpAny _ _ (pure ((n : Int) - 1, (-1 : Int), Builtin.Slice.slicePlaces ((n : Int) - 1) (-1) (-1))) _ _ s
  rw [places_rev]
  exact wpAny_pure h
theorem getItem_tuple_rev {t sl : Addr} {items : Array Value} {vk : Value} {Q : Value → Shared → Prop} (ht : IsTup s.heap t items) (hs : s.heap.IsSliceOf sl .none .none vk) (pk : IsPart vk (some (-1)))
    (h : Q (.ref s.heap.objs.size) { s with heap := s.heap.push { cls := .type "tuple", data := .seq items.toList.reverse.toArray } }) (hsz : items.size ≤ sizeLine) : wpAny (model prog w) A (getItem (.ref t) (.ref sl)) Q E s := by
  have hz : sizeOk (.seq items.toList.reverse.toArray) := by
    show items.toList.reverse.toArray.size ≤ sizeLine
    rw [List.size_toArray, List.length_reverse, Array.length_toList]; exact hsz
  obtain ⟨os, hos, hcs, hds⟩ := id hs
  have hTs : s.TypeIs (.ref sl) "slice" := ⟨os, hos, hcs⟩
  unfold getItem
  try with_reducible refine wpAny_holding ?_
  first | refine wpAny_bind (wpAny_pure ?_) | skip
  refine wpAny_bind (wpAny_sequenceKey ht.typeIs (by decide) ?_)
  refine wpAny_bind (wpAny_callSpecial?_slot (name := Str.ofString "__getitem__") ht.typeIs PyProof.Rows.slot_tuple_getitem (wpAny_call_entry PyProof.Rows.slot_tuple_getitem ht.typeIs entry_tuple_getitem ?_ (args_tuple_getitem _ _)))
  show wpAny _ _ (Builtin.Tuple.tupleItemsOf (.ref t) >>= _) _ _ s
  refine wpAny_bind (tupleItemsOf_ ht (wpAny_bind (wpAny_typeOf hTs ?_)))
  rw [if_pos (by decide)]
  refine wpAny_bind (applied_rev hs pk ?_)
  have hno : ¬ ((((items.size : Int) - 1) == 0 && (-1 : Int) == 1 && items.size == items.size) = true) := by
    rw [show ((-1 : Int) == 1) = false by decide]; simp
  show wpAny _ _ (if (((items.size : Int) - 1) == 0 && (-1 : Int) == 1 && items.size == items.size) = true then _ else _) _ _ s
  rw [if_neg hno, pick_rev]
  first
    | exact wpAny_bind (m := Builtin.Tuple.tupleExact _) (wpAny_newObj_type (wpAny_pure ⟨_, rfl, wpAny_pure h⟩) hz)
    | exact wpAny_bind (m := Builtin.Tuple.tupleExact _) (wpAny_newObj_type (wpAny_bind (wpAny_pure (wpAny_pure ⟨_, rfl, wpAny_pure h⟩))) hz)
    | exact wpAny_bind (wpAny_bind (m := Builtin.Tuple.tupleExact _) (wpAny_newObj_type (wpAny_pure (wpAny_pure ⟨_, rfl, wpAny_pure h⟩)) hz))
    | exact wpAny_bind (wpAny_bind (m := Builtin.Tuple.tupleExact _) (wpAny_newObj_type (wpAny_pure ⟨_, rfl, wpAny_pure h⟩) hz))
end
section
variable {X : Cx} {K : Frg} {a b : Expr} {fa fb : Sx} {pos : Pos} {A A' A2 : Wd} {H H' H2 : Hp} {S S' : Sto} {Q : VK} {ρ : Envi} {σ : L2.St} {D : Ends}
/-- x[::-1], by values: the slice stands at sl -/
def tRev (K : Frg) (te : TE) : TE := fun σ H Q => te σ H fun x H1 => ∃ a xs, x = .ref a ∧ ((SqT K H1 a xs ∧ ∀ p its, H1 p = none → Q (.ref p) (L2.upd H1 p (tupO its xs.reverse))) ∨ (SqL K H1 a xs ∧ ∀ p, H1 p = none → Q (.ref p) (L2.upd H1 p (.lst xs.reverse))))
theorem pe_rev {e : Expr} {te : TE} {c : Nat} {p1 p2 p3 : Pos} (he : PE X e te) : PE X (.Subscript e (.Slice none none (some (.UnaryOp .USub (.Constant (.int 1) c p1) p2)) p3) pos) (tRev X.K te) := by
  refine ⟨fun pins s σ H Q I h => ?_⟩
  refine Subscript_ (thn (he.run pins s σ H _ I h) fun v s1 ⟨x, H1, I1, r1, q1⟩ => ?_)
  have hp : PO X (some (.UnaryOp .USub (.Constant (.int 1) c p1) p2)) (tPart (tUn (fun x H Q => ∃ i, x = V.int i ∧ Q (.int (-i)) H) (tC (.int 1)))) := po_some (pe_un un_neg pe_int)
  refine wpAny_Slice ?_
  rw [evalPart_none]
  refine wpAny_pure (wpAny_pure ?_)
  refine thn (hp.run pins s1 σ H1 (fun o H2 => o = some (-1) ∧ H2 = H1) I1 ⟨1, rfl, -1, rfl, rfl, rfl⟩) fun vk s3 ⟨o, H2, I3, pk, eo, eH⟩ => ?_
  subst eo eH
  have I4 : Inv X pins σ H2 { s3 with heap := s3.heap.push { cls := .type "slice", data := .fields #[.none, .none, vk] } } := I3.kept (t' := s3.toks) fun b ob q => Heap.get?_push_of_some _ q
  have hsl : (s3.heap.push { cls := .type "slice", data := .fields #[.none, .none, vk] }).IsSliceOf s3.heap.objs.size .none .none vk := Heap.IsSliceOf.new ..
  obtain ⟨a, xs, ex, q1⟩ := q1
  subst ex
  cases r1
  show wpAny (model X.prog X.w) X.A (subscriptTail e (.Slice none none (some (.UnaryOp .USub (.Constant (.int 1) c p1) p2)) p3) (.ref a) (.ref s3.heap.objs.size)) (EP X pins σ Q) X.xe { s3 with heap := s3.heap.push { cls := .type "slice", data := .fields #[.none, .none, vk] } }
  rcases q1 with ⟨hq, q⟩ | ⟨hq, q⟩
  · obtain ⟨its, r, ht, hz⟩ := I4.tuple hq
    have hz' : its.toArray.size ≤ sizeLine := by rw [List.size_toArray, ← r.length]; exact hz
    refine tail_any (T := "tuple") (ops := [.ref a, .ref s3.heap.objs.size]) ht.typeIs PyProof.Rows.slot_tuple_getitem.lookup (getItem_tuple_rev ht hsl pk ?_ hz') (by with_unfolding_all rfl)
    have e : its.toArray.toList.reverse = its.reverse := by simp
    rw [e]
    exact lay_tup (t := s3.toks) I4 (by rw [List.length_reverse]; exact hz) r.reverse q
  · obtain ⟨its, r, pl, hz⟩ := I4.list hq
    have hz' : its.toArray.size ≤ sizeLine := by rw [List.size_toArray, ← r.length]; exact hz
    refine tail_any (T := "list") (ops := [.ref a, .ref s3.heap.objs.size]) pl.isList.typeIs list_getitem_lookup (wpAny_getItem_list_slice pl.isList hsl .none .none pk (by decide) ?_ hz') (by with_unfolding_all rfl)
    rw [PySem.W.krv_pick]
    refine ⟨.ref _, _, I4.laid (t' := s3.toks) (o := .lst xs.reverse) (fun b ob q => Heap.get?_push_of_some _ q) (Nat.le_refl _) ⟨by rw [List.length_reverse]; exact hz, its.reverse, 0, r.reverse, ?_⟩, rfl, q _ (I4.hok.fresh (Nat.le_refl _))⟩
    have e : its.toArray.toList.reverse = its.reverse := by simp
    rw [e]
    exact Heap.get?_push_size _ rfl
def evRev (f : Sx) : Sx := fun ρ S => (f ρ S).bind fun v S1 => match seqOf S1 v.th with
  | some q => if q.1 = true then .ok (.d (.tuple q.2.1.reverse)) S1 else .ok (.f (.lst q.2.1.reverse)) S1
  | none => .no
theorem eRev {c : Nat} {p1 p2 p3 : Pos} (he : PE X a (tE X.K fa)) : PE X (.Subscript a (.Slice none none (some (.UnaryOp .USub (.Constant (.int 1) c p1) p2)) p3) pos) (tE X.K (evRev fa)) :=
  PEi (pe_rev he) fun σ H Q ⟨A, S, ρ, w, env, p⟩ => at_seq (P := Post X.K A H Q) w env p (fun h => h) (fun _ _ h => h) fun v S1 x H1 e1 w1 r1 p1 => by
    split at p1
    case h_2 => exact p1.elim
    rename_i q hq
    obtain ⟨t, ds, g⟩ := q
    obtain ⟨a, xs, rfl, r, sq⟩ := seq_at hq w1 r1
    cases t with
    | true =>
      rw [if_pos rfl] at p1
      exact ⟨a, xs, rfl, .inl ⟨sq, fun q its hq => p1.tup e1 w1 hq r.reverse⟩⟩
    | false =>
      rw [if_neg Bool.false_ne_true] at p1
      exact ⟨a, xs, rfl, .inr ⟨sq, fun q hq => p1.lst e1 w1 hq r.reverse⟩⟩
end
end MV
set_option Elab.async false
set_option linter.all false
set_option maxRecDepth 100000
set_option maxHeartbeats 1000000
/-! Readings by mirrors: min of two data, max and min with a default, str, counts, indexes, constants of the module. -/
namespace PySem
open Sem (wp)
section
variable {prog : Program} {w : World} {A : Around} {E : Value → Shared → Prop} {s : Shared}
theorem call_min_twoH {a b : Value} {Q : Value → Shared → Prop}
    (h : wpAny (model prog w) A.in1 (pyIter (.ref s.heap.objs.size)) (fun it s₂ => ∃ I fp wr G n P St H bt, it = .ref I ∧ WalksS prog w A.in1 I fp wr G n P St ∧ St 0 s₂ ∧ (∀ b ∈ fp, b < s₂.heap.objs.size) ∧ 0 < n ∧
      (∀ b o, H.get? b = some o → b ∉ wr) ∧ (∀ b o, H.get? b = some o → s₂.heap.get? b = some o) ∧ CmpIn prog w A.in1 .Lt H P bt ∧ ∀ v s', P (argBest bt (n - 1)) v → Moved wr G s₂ s' → Q v s') E { s with heap := s.heap.push { cls := .type "tuple", data := .seq #[a, b] } }) :
    wpAny (model prog w) A (call (.builtin "min") [a, b]) Q E s := by
  have hname : (toString "min" ++ toString ".loop" : String) = "min.loop" := by decide
  refine call_function_tree F.kind_min F.plain_min F.entry_min (F.args_min2 _ _) ?_
  show wpAny _ A.in1 (Builtin.Builtins.bindParams "min" ["key", "default"] 0 ⟨[], []⟩ >>= _) _ _ s
  refine wpAny_bind (wpAny_of_eq (show Builtin.Builtins.bindParams "min" ["key", "default"] 0 ⟨[], []⟩ = pure [none, none] from rfl) (show wpAny _ A.in1 (newTuple [a, b] >>= _) _ _ s from ?_))
  refine wpAny_bind (wpAny_newObj_type (wpAny_bind (wpAny_mono h (fun it s₂ h₂ => ?_) fun _ _ e => e)))
  obtain ⟨I, fp, wr, G, n, P, St, H, bt, rfl, W, hst, hfp, hn, hw, hkeep, hcmp, hQ⟩ := h₂
  refine wpAny_bind (wpAny_newObj_type ?_)
  have hSf : s₂.heap.objs.size ∉ fp := fun hm => Nat.lt_irrefl _ (hfp _ hm)
  rw [hname]
  refine wpAny_pure ⟨plainId_quiet F.plain_min_loop _, codeAny_min_loop_firstH W H hw bt hcmp s₂.heap.objs.size hSf (fresh_in hkeep) _ hn (fun b o e => Heap.get?_push_of_some _ (hkeep b o e)) (W.frame 0 s₂ _ s₂.toks hst (Nat.le_refl _) fun b _ o e => Heap.get?_push_of_some _ e) (Heap.get?_push_size _ rfl) fun v s' hP hm => hQ v s' hP (Moved.drop_new (tk := s₂.toks) hm (Nat.le_refl _))⟩
theorem min_two_data {a b : Value} {x y : PyData} {as bs : List Addr} {Q : Value → Shared → Prop} (hh : A.handled = none) (ra : Reads s.heap a x as) (rb : Reads s.heap b y bs) (al : W.AlikeAll [x, y]) (hu : A.units + 1 + PyData.depthAll [x, y] < cLine)
    (h : ∀ h' tk, (∀ b o, s.heap.get? b = some o → h'.get? b = some o) → Q (if W.dataLt y x = true then b else a) { s with heap := h', toks := tk }) : wpAny (model prog w) A (call (.builtin "min") [a, b]) Q E s := by
  have hr : ReadsAll s.heap (#[a, b] : Array Value).toList [x, y] (as ++ (bs ++ [])) := .cons ra (.cons rb .nil)
  have hT : (s.heap.push { cls := .type "tuple", data := .seq #[a, b] }).IsTuple s.heap.objs.size #[a, b] := ⟨_, Heap.get?_push_size _ rfl, rfl, 0, rfl⟩
  have up : ∀ b' o, s.heap.get? b' = some o → (s.heap.push { cls := .type "tuple", data := .seq #[a, b] }).get? b' = some o := fun b' o e => Heap.get?_push_of_some _ e
  refine call_min_twoH (W.iter_tupleW (A := A.in1) (s := { s with heap := s.heap.push { cls := .type "tuple", data := .seq #[a, b] } }) hh hT fun s₂ e W' st hfp hw hk => ?_)
  refine ⟨_, _, _, _, _, _, _, s.heap, (fun i j => W.dataLt ([x, y].getD i .none) ([x, y].getD j .none)), rfl, W', st, hfp, Nat.succ_pos _, fun b' o e => hw b' o (up b' o e), fun b' o e => hk b' o (up b' o e), W.cmpIn_lt (A := A.in1) hr al (by show A.units + 1 + _ < _; exact hu), fun v s' hP m => ?_⟩
  obtain ⟨h', tk, rfl, hk'⟩ := W.moved_old e rfl m
  have hv : v = if W.dataLt y x = true then b else a := by
    have hP : (#[a, b] : Array Value)[argBest (fun i j => W.dataLt ([x, y].getD i .none) ([x, y].getD j .none)) 1]? = some v := hP
    by_cases c : W.dataLt y x = true
    · have e : argBest (fun i j => W.dataLt ([x, y].getD i .none) ([x, y].getD j .none)) 1 = 1 := by simp [argBest, c]
      rw [e] at hP
      rw [if_pos c]
      simpa using hP.symm
    · have e : argBest (fun i j => W.dataLt ([x, y].getD i .none) ([x, y].getD j .none)) 1 = 0 := by simp [argBest, c]
      rw [e] at hP
      rw [if_neg c]
      simpa using hP.symm
  rw [hv]
  exact h h' tk fun b' o e => hk' b' o (up b' o e)
end
end PySem
namespace MV
open PySem PySem.Spec PyProof.Rows L2
section
variable {X : Cx} {K : Frg} {a b : Expr} {fa fb : Sx} {pos : Pos} {A A' A2 : Wd} {H H' H2 : Hp} {S S' : Sto} {Q : VK} {ρ : Envi} {σ : L2.St} {D : Ends}
/-! ### min(x, y) of data -/
def gMin2 : List Val → Sto → Res Val
  | [.d x, .d y], S => if allAlike [x, y] = true then .ok (.d (if PySem.W.dataLt y x = true then y else x)) S else .no
  | _, _ => .no
theorem bMin2 (hc : X.calm = true) (hu : X.A.units + 100 < cLine) : BRul X (.builtin "min") gMin2 := by
  intro pins s σ A S H xs us vs Q I wf rvs rus p
  unfold gMin2 at p
  split at p
  case h_2 => exact p.elim
  rename_i x y
  split at p
  case isFalse => exact p.elim
  rename_i hal
  obtain ⟨al, sh⟩ := allAlike_ok hal
  cases rvs with | cons r1 r2 =>
  cases r2 with | cons r2 r3 =>
  cases r3
  obtain ⟨u, u2, rfl, q1, q2⟩ := vals2 rus
  have hd := shaped_depAll sh
  obtain ⟨as, ra⟩ := Dp.reads I x _ u (Rp.dp _ _ (SeqAt.canLay_of_shaped (sh x (by simp))) r1) q1
  obtain ⟨bs, rb⟩ := Dp.reads I y _ u2 (Rp.dp _ _ (SeqAt.canLay_of_shaped (sh y (by simp))) r2) q2
  refine min_two_data (I.ok.hd hc) ra rb al (by omega) fun h' tk hk => ?_
  by_cases c : PySem.W.dataLt y x = true
  · rw [if_pos c] at p ⊢
    exact ⟨_, H, I.kept (t' := tk) hk, q2, p _ H .refl wf r2⟩
  · rw [if_neg c] at p ⊢
    exact ⟨_, H, I.kept (t' := tk) hk, q1, p _ H .refl wf r1⟩
/-! ### max(x, default=d) -/
def gMaxD (v d : Val) (S : Sto) : Res Val := match seqOf S v with
  | some q => match q.2.1 with
    | [] => match d with
      | .d y => .ok (.d y) S
      | _ => .no
    | ds => maxDat ds S
  | none => .no
def evMaxD (f g : Sx) : Sx := fun ρ S => (f ρ S).bind fun v S1 => (g ρ S1).bind fun d S2 => match d with
  | .d y => gMaxD v.th (.d y) S2
  | _ => .no
theorem cr_maxD (hc : X.calm = true) (hu : X.A.units + 100 < cLine) : CallRK X (.builtin "max") [(Str.ofString "default")] (fun xs zs H Q => ∃ A S x z v d, xs = [x] ∧ zs = [z] ∧ Wf X.K A S H ∧ Rv X.K A H x v ∧ Rv X.K A H z d ∧ Post X.K A H Q (gMaxD v d S)) := by
  intro pins s σ H xs zs us ws Q I rus rws ⟨A, S, x, z, v, d, e1, e2, wf, rv, rd, p⟩
  subst e1 e2
  obtain ⟨u, rfl, ru⟩ := vals1 rus
  obtain ⟨w, rfl, rw⟩ := vals1 rws
  unfold gMaxD at p
  split at p
  case h_2 => exact p.elim
  rename_i q hq
  obtain ⟨t, ds, g⟩ := q
  obtain ⟨a, ys, rfl, h1, h2⟩ := seq_at hq wf rv
  cases ru
  show wpAny (model X.prog X.w) X.A (call (.builtin "max") [.ref a] [(Str.ofString "default", w)]) (EP X pins σ Q) X.xe s
  dsimp only at p
  have key : PySem.W.AlikeAll ds ∧ (∀ d ∈ ds, SeqAt.shaped d = true) := by
    split at p
    · exact ⟨⟨fun x hx => (by cases hx), fun x hx => (by cases hx)⟩, fun x hx => (by cases hx)⟩
    · rename_i hne
      unfold maxDat at p
      split at p
      · split at p
        · rename_i hal; exact allAlike_ok hal
        · exact p.elim
      · exact p.elim
  obtain ⟨al, sh⟩ := key
  have hdp := shaped_depAll sh
  have lay := shaped_layAll sh
  have fin0 : ds = [] → ∀ h' tk, (∀ b o, s.heap.get? b = some o → h'.get? b = some o) → EP X pins σ Q w { s with heap := h', toks := tk } := fun e h' tk hk => by
    subst e
    dsimp only at p
    split at p
    · rename_i y
      exact ⟨z, H, I.kept (t' := tk) hk, rw, p z H .refl wf rd⟩
    · exact p.elim
  have fin : ∀ its, Vals ys its → ∀ (y : PyData) (zs : List PyData) (i : Nat) v h' tk bs, ds = y :: zs → its[i]? = some v → Reads h' v (PySem.W.maxD y zs) bs → (∀ b o, s.heap.get? b = some o → h'.get? b = some o) → EP X pins σ Q v { s with heap := h', toks := tk } := fun its rv y zs i v h' tk bs e hv hr hk => by
    subst e
    dsimp only [maxDat] at p
    split at p
    case isFalse => exact p.elim
    obtain ⟨z, rz, rp⟩ := item_rp I h1 rv sh al (maxD_in y zs) hv hr hk
    exact ⟨z, H, I.kept (t' := tk) hk, rz, p z H .refl wf rp⟩
  cases t with
  | true =>
    obtain ⟨its, rv, ht, hz⟩ := I.tuple (show SqT X.K H a ys from h2)
    obtain ⟨as, rd⟩ := Dp.readsAll I ds ys its (RpL.dp _ _ lay h1) rv
    exact PySem.W.max_tuple_default (I.ok.hd hc) (show s.heap.IsTuple a its.toArray from ht) (by simpa using rd) al (by omega) fin0 fun y zs i v h' tk bs e hv hr hk => fin its rv y zs i v h' tk bs e (by simpa using hv) hr hk
  | false =>
    obtain ⟨its, rv, pl, hz⟩ := I.list (show SqL X.K H a ys from h2)
    obtain ⟨as, rd⟩ := Dp.readsAll I ds ys its (RpL.dp _ _ lay h1) rv
    exact PySem.W.max_list_default (I.ok.hd hc) pl.isList (by simpa using rd) al (by omega) fin0 fun y zs i v h' tk bs e hv hr hk => fin its rv y zs i v h' tk bs e (by simpa using hv) hr hk
theorem eMaxD {p kp : Pos} (hc : X.calm = true) (hu : X.A.units + 100 < cLine) (hg : Gl X "max") (hm : X.mg "max" = none) (ha : PE X a (tE X.K fa)) (hb : PE X b (tE X.K fb))
    (hs : starEach [a] X.env = (false, eval a X.env) :: starEach [] X.env := by rfl)
    (he : backTo pos (starEach [a] X.env) = (false, eval a X.env) :: backTo pos (starEach [] X.env) := by rfl) (hpl : (backTo pos (starEach [a] X.env)).any (·.1) = false := by rfl) :
    PE X (.Call (.Name "max" p) [a] [⟨some "default", b, kp⟩] pos) (tE X.K (evMaxD fa fb)) :=
  PEi (pe_callBK (cr_maxD hc hu) hg hm (by decide +kernel) (pa_cons ha pa_nil hs) (pk_cons hb pk_nil) (by decide) (by decide) he hpl) fun σ H Q ⟨A, S, ρ, w, env, p⟩ =>
  at_seq (P := Post X.K A H Q) w env p (fun h => h) (fun _ _ h => h) fun v S1 x H1 e1 w1 r1 p1 =>
    at_seq (P := Post X.K A H Q) w1 (env.mono e1) p1 (fun h => h) (fun _ _ h => h) fun d S2 z H2 e2 w2 r2 p2 => by
      cases d with
      | d y => exact ⟨A, S2, x, z, v.th, .d y, rfl, rfl, w2, r1.mono e2, r2, p2.shift (e1.trans e2) w2⟩
      | _ => exact p2.elim
end
end MV
set_option Elab.async false
set_option linter.all false
set_option maxRecDepth 100000
set_option maxHeartbeats 1000000
/-! Readings by mirrors: str of things, how often a text is in a list, constants of the module. -/
namespace MV
open PySem PySem.Spec PyProof.Rows L2
section
variable {X : Cx} {K : Frg} {a b : Expr} {fa fb : Sx} {pos : Pos} {A A' A2 : Wd} {H H' H2 : Hp} {S S' : Sto} {Q : VK} {ρ : Envi} {σ : L2.St} {D : Ends}
open Classical in
noncomputable def gStr : List Val → Sto → Res Val
  | [v], S => match v with
    | .d (.str x) => .ok (.d (.str x)) S
    | v => match asD S v with
      | some d => if d.canLay0 = true ∧ d.showable = true ∧ d.shown.length ≤ sizeLine ∧ d.depth ≤ 64 ∧ (∀ x, d ≠ .str x) then .ok (.d (.str d.shown)) S else .no
      | none => .no
  | _, _ => .no
theorem bStr (hu : X.A.units + 100 < cLine) (gd : X.A.guards = some []) : BRul X (.type "str") gStr := by
  intro pins s σ A S H xs us vs Q I wf rvs rus p
  unfold gStr at p
  split at p
  case h_2 => exact p.elim
  rename_i v0 v _
  cases rvs with | cons r1 r2 =>
  cases r2
  obtain ⟨u, rfl, ru⟩ := vals1 rus
  split at p
  · rename_i x
    have r1 : Rp X.K A.V H _ (.str x) := r1
    cases r1
    obtain ⟨t, rfl⟩ := ru
    exact PySem.P.str_of_str ⟨.str x, H, I, ⟨t, rfl⟩, p _ H .refl wf (.str _)⟩
  split at p
  case h_2 => exact p.elim
  rename_i d hd
  split at p
  case isFalse => exact p.elim
  rename_i c
  obtain ⟨c1, c2, c3, c4, c5⟩ := c
  have dp := asD_dp wf r1 hd c1
  obtain ⟨as, rd⟩ := Dp.reads I d _ u dp ru
  have fin : ∀ h' t k, (∀ b o, s.heap.get? b = some o → h'.get? b = some o) → EP X pins σ Q (.str d.shown t) { s with heap := h', toks := k } := fun h' t k kp =>
    ⟨.str d.shown, H, I.kept kp, ⟨t, rfl⟩, p _ H .refl wf (.str _)⟩
  have fin0 : EP X pins σ Q (.str d.shown s.toks) { s with toks := s.toks + 1 } := ⟨.str d.shown, H, I.tok _, ⟨_, rfl⟩, p _ H .refl wf (.str _)⟩
  cases d with
  | none => cases rd; simp only [PyData.shown] at fin0; exact PySem.P.str_of_none fin0
  | bool b => cases rd; simp only [PyData.shown] at fin0; exact PySem.P.str_of_bool fin0
  | int i =>
    cases rd
    simp only [PyData.shown] at fin0
    exact PySem.P.str_of_int (by simpa [PyData.showable] using c2) fin0
  | str x => exact absurd rfl (c5 x)
  | list ds =>
    cases rd
    all_goals exact str_of_reads (by constructor <;> assumption) c2 (fun z => by rw [PyData.hasDict_of_canLay _ c1] at z; cases z) gd (by omega) (fun _ _ h => h) (fun h' t k kp => fin h' t k kp) c3
  | tuple ds =>
    cases rd
    all_goals exact str_of_reads (by constructor <;> assumption) c2 (fun z => by rw [PyData.hasDict_of_canLay _ c1] at z; cases z) gd (by omega) (fun _ _ h => h) (fun h' t k kp => fin h' t k kp) c3
  | dict ps => simp [PyData.canLay0] at c1
/-! ### list.count of texts -/
def strsOf : List PyData → Option (List Str)
  | [] => some []
  | .str i :: r => (strsOf r).map (i :: ·)
  | _ :: _ => none
theorem strsOf_ok : ∀ {ds : List PyData} {ns : List Str}, strsOf ds = some ns → ds = ns.map .str
  | [], _, h => by cases h; rfl
  | .str i :: r, ns, h => by
    unfold strsOf at h
    cases e : strsOf r with
    | none => rw [e] at h; cases h
    | some ms =>
      rw [e] at h
      cases h
      rw [List.map_cons, ← strsOf_ok e]
  | .int _ :: _, _, h => by cases h
  | .none :: _, _, h => by cases h
  | .bool _ :: _, _, h => by cases h
  | .list _ :: _, _, h => by cases h
  | .tuple _ :: _, _, h => by cases h
  | .dict _ :: _, _, h => by cases h
theorem RpL.strs {L : List Addr} : ∀ {xs : List V} {ns : List Str}, RpL K L H xs (ns.map .str) → xs = ns.map V.str
  | _, [], .nil => rfl
  | _, n :: ns, .cons r t => by
    rw [List.map_cons, ← RpL.strs t, show _ = V.str n from Rp.key (k := .inr n) r rfl]
def gCountS (v : Val) (vs : List Val) (S : Sto) : Res Val := match (asR S v).bind strsOf, vs with
  | some ns, [.d (.str k)] => .ok (.d (.int (ns.countP (· == k) : Nat))) S
  | _, _ => .no
def eqks (k : Str) : Value → Bool
  | .str j _ => j == k
  | _ => false
theorem eqks_gives : ∀ {its : List Value} {ns : List Str} {k : Str} {t : Tok}, Vals (ns.map V.str) its → ∀ y ∈ its, MeetsSeq.EqGives y (.str k t) (eqks k y)
  | _, [], _, _, .nil, y, h => by cases h
  | _, n :: ns, k, t, .cons r rs, y, h => by
    rcases List.mem_cons.mp h with rfl | h
    · obtain ⟨u, rfl⟩ := r
      exact eqGives_str n k u t
    · exact eqks_gives rs y h
theorem eqks_count : ∀ {its : List Value} {ns : List Str} {k : Str}, Vals (ns.map V.str) its → its.countP (eqks k) = ns.countP (· == k)
  | _, [], _, .nil => rfl
  | _, n :: ns, k, .cons r rs => by
    obtain ⟨u, rfl⟩ := r
    rw [List.countP_cons, List.countP_cons, eqks_count rs]
    rfl
theorem mCountS : MRul X "list.count" gCountS := by
  intro pins s σ A S H x xs u us v vs Q I wf rv rvs ru rus p
  unfold gCountS at p
  split at p
  case h_2 => exact p.elim
  rename_i ns k hns
  cases rvs with | cons r1 r2 =>
  cases r2
  have r1 : Rp X.K A.V H _ (.str k) := r1
  cases r1
  obtain ⟨y, rfl, ry⟩ := vals1 rus
  obtain ⟨t, rfl⟩ := ry
  cases hl : asR S v with
  | none => rw [hl] at hns; cases hns
  | some ds =>
    rw [hl] at hns
    obtain ⟨a, ys, rfl, h1, h2⟩ := asR_ok wf rv hl
    cases ru
    have ed := strsOf_ok (show strsOf ds = some ns from hns)
    subst ed
    have ey := RpL.strs h2
    subst ey
    obtain ⟨its, rvl, ⟨⟨cls, dd, data, sl⟩, n, ho, hc, hdn, hd⟩, hlen⟩ := I.list h1
    simp only at hc hd
    subst hc hd
    refine call_meets PySem.F.slot_list_count ⟨_, ho, rfl⟩ PySem.F.entry_list_count (PySem.F.args_list_count_2 _ _) (SeqAt.list_countAt a its.toArray n dd sl (.str k t) (eqks k)) ⟨ho, fun y hy => (eqks_gives rvl y (by simpa using hy)).at _ _, ?_⟩
    refine ⟨.int (ns.countP (· == k) : Nat), H, I.tok _, ⟨s.toks, ?_⟩, p _ H .refl wf (.int _)⟩
    show Value.int ((its.toArray.toList.countP (eqks k) : Nat) : Int) s.toks = Value.int ((ns.countP (· == k) : Nat) : Int) s.toks
    rw [show its.toArray.toList = its from rfl, eqks_count rvl]
/-! ### is True, is not True -/
def gIsB : Val → Val → Sto → Res Val
  | .d (.bool a), .d (.bool b), S => .ok (.d (.bool (a == b))) S
  | _, _, _ => .no
def gNotB : Val → Val → Sto → Res Val
  | .d (.bool a), .d (.bool b), S => .ok (.d (.bool (!(a == b)))) S
  | _, _, _ => .no
theorem oIsB : ORul X (compareOp .Is) gIsB := by
  intro pins s σ A S H x y u u' v w Q I wf rv rw ru ru' p
  unfold gIsB at p
  split at p
  · rename_i a b
    have e1 := Rp.bl_inv (show Rp X.K A.V H x (.bool a) from rv)
    have e2 := Rp.bl_inv (show Rp X.K A.V H y (.bool b) from rw)
    subst e1 e2
    cases ru
    cases ru'
    show wpAny _ _ ((isSame (Value.bool a) (Value.bool b)) >>= fun z => pure (Value.bool z)) _ _ s
    exact wpAny_bind (wpAny_isSame_plain rfl (wpAny_pure ⟨.bl (a == b), H, I, (by cases a <;> cases b <;> rfl), p _ H .refl wf (.bl _)⟩))
  · exact p.elim
theorem oNotB : ORul X (compareOp .IsNot) gNotB := by
  intro pins s σ A S H x y u u' v w Q I wf rv rw ru ru' p
  unfold gNotB at p
  split at p
  · rename_i a b
    have e1 := Rp.bl_inv (show Rp X.K A.V H x (.bool a) from rv)
    have e2 := Rp.bl_inv (show Rp X.K A.V H y (.bool b) from rw)
    subst e1 e2
    cases ru
    cases ru'
    show wpAny _ _ ((isSame (Value.bool a) (Value.bool b)) >>= fun z => pure (Value.bool (!z))) _ _ s
    exact wpAny_bind (wpAny_isSame_plain rfl (wpAny_pure ⟨.bl (!(a == b)), H, I, (by cases a <;> cases b <;> rfl), p _ H .refl wf (.bl _)⟩))
  · exact p.elim
/-! ### constants of the module -/
theorem eCstI {x : Str} {i : Int} {pos : Pos} (hg : Gl X x) (hm : ∃ t, X.mg x = some (.int i t)) (hd : (x == ("__debug__" : Str)) = false := by decide) : PE X (.Name x pos) (tE X.K (evK (.int i))) := by
  obtain ⟨t, hm⟩ := hm
  exact eC (v := .int i) (pe_glob hg hm ⟨t, rfl⟩ hd) fun _ _ => .int i
end
end MV
set_option Elab.async false
set_option linter.all false
set_option maxRecDepth 100000
/-! Readings by mirrors: constants of the module that are tuples of texts. -/
namespace MV
open PySem PySem.Spec PyProof.Rows L2
section
variable {X : Cx} {K : Frg}
theorem rpL_str {A : List Addr} {H : Hp} : ∀ xs : List Str, RpL K A H (xs.map V.str) (xs.map PyData.str)
  | [] => .nil
  | x :: xs => .cons (.str x) (rpL_str xs)
theorem eCstT {x : Str} (xs : List Str) {pos : Pos} (hg : Gl X x) (hm : ∃ a, X.mg x = some (.ref a) ∧ KTup X.K a (xs.map V.str)) (hd : (x == ("__debug__" : Str)) = false := by decide) : PE X (.Name x pos) (tE X.K (evK (.tuple (xs.map PyData.str)))) := by
  obtain ⟨a, hm, ht⟩ := hm
  exact eC (v := .ref a) (pe_glob hg hm rfl hd) fun _ _ => .tup (.inr ht) (rpL_str xs)
theorem ktup_two {a : Addr} {x y : Str} {t u : Tok} {n : Nat} {sl : Array (Option Value)} (h : K.lookup a = some ⟨.type "tuple", none, .seq #[.str x t, .str y u] n, sl⟩) : KTup K a [.str x, .str y] :=
  ⟨_, _, n, h, rfl, rfl, rfl, (by decide : (2 : Nat) ≤ sizeLine), .cons ⟨t, rfl⟩ (.cons ⟨u, rfl⟩ .nil)⟩
end
end MV
set_option Elab.async false
set_option linter.all false
set_option maxRecDepth 100000
/-! Readings by mirrors: dicts of which an item may be a cell (written out, read, stored into). -/
namespace MV
open PySem PySem.Spec PyProof.Rows L2
section
variable {X : Cx} {K : Frg} {a b : Expr} {fa fb : Sx} {pos : Pos} {A A' A2 W W' : Wd} {H H' H2 : Hp} {S S' : Sto} {Q : VK} {ρ : Envi} {σ : L2.St} {D : Ends}
def Itm.val : Itm → Val
  | .d x => .d x
  | .c n => .c n
def rLook (ps : List (Key × Itm)) (k : Key) : Option Itm := (ps.find? fun p => decide (p.1 = k)).map (·.2)
def rPut (ps : List (Key × Itm)) (k : Key) (i : Itm) : List (Key × Itm) :=
  if (rLook ps k).isSome then ps.map fun p => if p.1 = k then (p.1, i) else p else ps ++ [(k, i)]
def rPutAll (ps : List (Key × Itm)) : List (Key × Itm) → List (Key × Itm)
  | [] => ps
  | q :: qs => rPutAll (rPut ps q.1 q.2) qs
abbrev VR (K : Frg) (W : Wd) (H : Hp) : List (Key × V) → List (Key × Itm) → Prop := Paired fun p q => p.1 = q.1 ∧ ItmOk K W H p.2 q.2
theorem ItmOk.kp {v : V} {i : Itm} (e : Kp W.V H W'.V H') (hA : W'.A = W.A) (r : ItmOk K W H v i) : ItmOk K W' H' v i := by
  cases i with
  | d x => exact Rp.mono e r
  | c n => obtain ⟨a, h, rfl⟩ := r; exact ⟨a, by rw [hA]; exact h, rfl⟩
theorem VR.kp {kvs : List (Key × V)} {ps : List (Key × Itm)} (e : Kp W.V H W'.V H') (hA : W'.A = W.A) (r : VR K W H kvs ps) : VR K W' H' kvs ps := Paired.mapP r fun _ _ h => ⟨h.1, h.2.kp e hA⟩
theorem VR.look {k : Key} : ∀ {kvs : List (Key × V)} {ps : List (Key × Itm)}, VR K W H kvs ps → (rLook ps k = none ∧ valV kvs k = none) ∨ ∃ i v, rLook ps k = some i ∧ valV kvs k = some v ∧ ItmOk K W H v i
  | _, _, .nil => .inl ⟨rfl, rfl⟩
  | p :: kvs, q :: ps, .cons h t => by
    by_cases e : p.1 = k
    · exact .inr ⟨q.2, p.2, by simp [rLook, ← h.1, e], valV_pos e, h.2⟩
    · have e' : ¬ q.1 = k := fun z => e (h.1.trans z)
      have h1 : rLook (q :: ps) k = rLook ps k := by simp [rLook, e']
      rw [h1, valV_neg e]
      exact VR.look t
theorem VR.repl {k : Key} {v : V} {i : Itm} (ri : ItmOk K W H v i) : ∀ {kvs : List (Key × V)} {ps : List (Key × Itm)}, VR K W H kvs ps →
    VR K W H (kvs.map fun kv => if kv.1 = k then (kv.1, v) else kv) (ps.map fun p => if p.1 = k then (p.1, i) else p)
  | _, _, .nil => .nil
  | p :: kvs, q :: ps, .cons h t => by
    rw [List.map_cons, List.map_cons]
    by_cases e : p.1 = k
    · rw [if_pos e, if_pos (h.1.symm.trans e)]
      exact .cons ⟨h.1, ri⟩ (VR.repl ri t)
    · rw [if_neg e, if_neg (fun z => e (h.1.trans z))]
      exact .cons h (VR.repl ri t)
theorem VR.put {k : Key} {v : V} {i : Itm} (ri : ItmOk K W H v i) {kvs : List (Key × V)} {ps : List (Key × Itm)} (r : VR K W H kvs ps) : VR K W H (putK kvs k v) (rPut ps k i) := by
  unfold putK rPut
  rw [valV_any]
  rcases r.look (k := k) with ⟨h1, h2⟩ | ⟨d, u, h1, h2, _⟩
  · rw [h1, h2]
    exact Paired.snoc r ⟨rfl, ri⟩
  · rw [h1, h2]
    exact r.repl ri
theorem VR.puts : ∀ {kvs : List (Key × V)} {qs : List (Key × Itm)} {lvs : List (Key × V)} {ps : List (Key × Itm)}, VR K W H kvs qs → VR K W H lvs ps → VR K W H (mergeK lvs kvs) (rPutAll ps qs)
  | _, _, _, _, .nil, r => by simpa [mergeK, rPutAll] using r
  | (k, v) :: kvs, (j, y) :: qs, _, _, .cons ⟨e, q⟩ t, r => by
    have e : k = j := e
    subst e
    exact VR.puts (kvs := kvs) (qs := qs) t (r.put q)
/-! ### d[k] -/
def rIx (S : Sto) (v w : Val) : Option Val := match v with
  | .c n => match S[n]? with
    | some (.rcd ps) => match w with
      | .d y => match kOf y with
        | some k => (rLook ps k).map Itm.val
        | none => none
      | _ => none
    | _ => none
  | _ => none
def gIxR : Val → Val → Sto → Res Val := fun v w S => match rIx S v w with
  | some z => .ok z S
  | none => gIx v w S
theorem xIxR (hu : X.A.units + 1 < cLine) : IxR X (rO X.K gIxR) := by
  intro value slice pins s σ H x y u u' Q I ru ru' ⟨A, S, v, w, wf, rv, rw, p⟩ hs
  unfold gIxR at p
  split at p
  · rename_i z hz
    unfold rIx at hz
    split at hz
    case h_2 => cases hz
    rename_i n
    split at hz
    case h_2 => cases hz
    rename_i ps hps
    split at hz
    case h_2 => cases hz
    rename_i y'
    split at hz
    case h_2 => cases hz
    rename_i k hk
    obtain ⟨a, ha, e1⟩ := rv
    subst e1
    obtain ⟨kvs, g1, r1⟩ := wf.ok n a _ ha hps
    cases ru
    have e2 := Rp.key rw hk
    subst e2
    have r1 : VR X.K A H kvs ps := r1
    rcases r1.look (k := k) with ⟨h1, h2⟩ | ⟨d', zz, h1, h2, h3⟩
    · rw [h1] at hz; cases hz
    · rw [h1] at hz
      cases hz
      have g : DGet H a (kV k) (some zz) := by
        have g := DGet.k (k := k) g1
        rwa [h2] at g
      refine tail_any (dict_typeIs I g) slot_dict_getitem.lookup (d_getItem hu I g ru' fun w' s' I' r' => ⟨zz, H, I', r', ?_⟩) hs
      cases d' with
      | d x => exact p zz H .refl wf h3
      | c m => obtain ⟨b, hb, rfl⟩ := h3; exact p b H .refl wf hb
  · exact xIx hu value slice pins s σ H x y u u' Q I ru ru' ⟨A, S, v, w, wf, rv, rw, p⟩ hs
theorem eIxR (hu : X.A.units + 100 < cLine) (ha : PE X a (tE X.K fa)) (hb : PE X b (tE X.K fb)) (hs : PlainIx b := by exact fun _ _ => rfl) : PE X (.Subscript a b pos) (tE X.K (ev2 gIxR fa fb)) := PEi (pe_ix (xIxR (by omega)) ha hb hs) fun _ _ _ => ev2_ok
/-! ### d[k] = v -/
def gPutR (v i x : Val) (S : Sto) : Option Sto := match v, i, x with
  | .c n, .d z, .d y => match S[n]? with
    | some (.rcd ps) => match kOf z with
      | some k => if ps.length < sizeLine ∧ (Cell.rcd (rPut ps k (.d y))).lt n = true then some (S.set n (.rcd (rPut ps k (.d y)))) else none
      | none => none
    | _ => none
  | _, _, _ => none
def rPR (K : Frg) : V → V → V → Hp → (Hp → Prop) → Prop := fun o i x H Q => ∃ A S v w y S', Wf K A S H ∧ Rv K A H o v ∧ Rv K A H i w ∧ Rv K A H x y ∧ gPutR v w y S = some S' ∧ ∀ H', Ext A H A H' → Wf K A S' H' → Q H'
theorem set_rcd (hu : X.A.units + 1 < cLine) : PSet X (rPR X.K) := by
  intro pins s σ H o i x ov iv xv Q I ro ri rx ⟨A, S, v, w, y, S', wf, rv, rw, ry, hp, q⟩
  unfold gPutR at hp
  split at hp
  case h_2 => cases hp
  rename_i n z y'
  split at hp
  case h_2 => cases hp
  rename_i ps hps
  split at hp
  case h_2 => cases hp
  rename_i k hk
  split at hp
  case isFalse => cases hp
  rename_i hl
  cases hp
  obtain ⟨a, ha, e1⟩ := rv
  subst e1
  have ma : a ∈ A.A := List.mem_of_getElem? ha
  obtain ⟨kvs, h2, h3⟩ := wf.ok n a _ ha hps
  have h3 : VR X.K A H kvs ps := h3
  have e2 := Rp.key rw hk
  subst e2
  cases ro
  have hl' : kvs.length < sizeLine := by rw [Paired.length h3]; exact hl.1
  have ry : ItmOk X.K A H x (.d y') := ry
  exact d_setItem hu I (DPut.k (v := x) h2 hl') ri rx fun s' I' => ⟨_, I', q _ (.upd ma) (wf.upd ha ⟨_, upd_same, (h3.put ry).kp (kp_upd ma) rfl⟩ hl.2)⟩
def sPutQ (fo fi fe : Sx) : Ss := fun ρ S => (fe ρ S).bind fun x S1 => (fo ρ S1).bind fun v S2 => (fi ρ S2).bind fun i S3 => match gPutR v.th i.th x.th S3 with
  | some S4 => .ok (.nx ρ) S4
  | none => .no
theorem sPutQR {o i : Expr} {fo fi : Sx} {p2 : Pos} (hu : X.A.units + 100 < cLine) (ho : PE X o (tE X.K fo)) (hi : PE X i (tE X.K fi)) (he : PE X a (tE X.K fa))
    (hx : ∀ v, assign (.Subscript o i p2) X.env v = (do
      let ov ← holding [v] (eval o X.env)
      let iv ← holding [v, ov] (eval i X.env)
      standAt p2
      holding [v, ov, iv] (setItem ov iv v)
      release [v, ov, iv] []) := by intro _; rfl)
    (hs : swapsWithSole [.Subscript o i p2] a pos.line X.env = pure false := by rfl) (hw : swappedStores [.Subscript o i p2] a X.env = pure none := by rfl)
    (h1 : (assignEach [.Subscript o i p2] X.env).map (·.2) = [assign (.Subscript o i p2) X.env] := by rfl) : PS X (.Assign [.Subscript o i p2] a pos) (tS X.K (sPutQ fo fi fa)) :=
  PSi (ps_asg he (pg_sub ho hi (set_rcd (by omega)) hx) hs hw h1) fun D σ H ⟨A, S, ρ, w, env, p⟩ =>
  at_seq (P := PostS X.K A H D) w env p (fun h => h) (fun _ _ h => h) fun x S1 xv H1 e1 w1 r1 p1 =>
    at_seq (P := PostS X.K A H D) w1 (env.mono e1) p1 (fun h => h) (fun _ _ h => h) fun v S2 ov H2 e2 w2 r2 p2 =>
      at_seq (P := PostS X.K A H D) w2 ((env.mono e1).mono e2) p2 (fun h => h) (fun _ _ h => h) fun i S3 iv H3 e3 w3 r3 p3 => by
        split at p3
        · rename_i S4 h4
          refine ⟨A, S3, v.th, i.th, x.th, S4, w3, r2.mono e3, r3, r1.mono (e2.trans e3), h4, fun H4 e4 w4 => ?_⟩
          have e := ((e1.trans e2).trans e3).trans e4
          exact p3 A σ H4 e w4 (env.mono e)
        · exact p3.elim
/-! ### {k: v, ..} with cells -/
abbrev SR := Envi → Sto → Res (List (Key × Itm))
def PostDR (K : Frg) (A : Wd) (H : Hp) (Q : List (V × V) → Hp → Prop) : Res (List (Key × Itm)) → Prop
  | .ok qs S => ∀ kvs H', Ext A H A H' → Wf K A S H' → VR K A H' kvs qs → Q (kvs.map fun kv => (kV kv.1, kv.2)) H'
  | .exc _ _ => False
  | .no => False
theorem PostDR.seq {β : Type} {P : Res β → Prop} {Q : List (V × V) → Hp → Prop} {r : Res (List (Key × Itm))} {g : List (Key × Itm) → Sto → Res β} (h : P (r.bind g)) (h0 : P .no → False) (h1 : ∀ e S, P (.exc e S) → False)
    (k : ∀ qs S1 kvs H1, Ext A H A H1 → Wf K A S1 H1 → VR K A H1 kvs qs → P (g qs S1) → Q (kvs.map fun kv => (kV kv.1, kv.2)) H1) : PostDR K A H Q r := by
  cases r with
  | ok v S1 => exact fun x H1 e w r => k v S1 x H1 e w r h
  | exc e S => exact (h1 _ _ h).elim
  | no => exact (h0 h).elim
def tDR (K : Frg) (f : SR) : L2.St → Hp → (List (V × V) → Hp → Prop) → Prop := fun σ H Q => At K σ H fun A ρ S => PostDR K A H Q (f ρ S)
def PDR (X : Cx) (pos : Pos) (keys : List (Option Expr)) (values : List Expr) (f : SR) : Prop := ∃ trs, PPs X pos keys values trs ∧ ∀ σ H Q, tDR X.K f σ H Q → tPairs trs σ H Q
def itmOf : Val → Option Itm
  | .d x => some (.d x)
  | .c n => some (.c n)
  | _ => none
def rNil : SR := fun _ S => .ok [] S
def rCons (fk fv : Sx) (g : SR) : SR := fun ρ S => (fk ρ S).bind fun v S1 => (fv ρ S1).bind fun w S2 => (g ρ S2).bind fun r S3 => match v.th, itmOf w.th with
  | .d x, some i => match kOf x with
    | some k => .ok ((k, i) :: r) S3
    | none => .no
  | _, _ => .no
theorem ddRN : PDR X pos [] [] rNil := ⟨[], pps_nil, fun σ H Q ⟨A, S, ρ, w, env, p⟩ => p [] H .refl w .nil⟩
theorem itm_ok {v : Val} {i : Itm} {x : V} (h : itmOf v = some i) (r : Rv K A H x v) : ItmOk K A H x i := by
  cases v <;> cases h <;> exact r
theorem ddRC {k v : Expr} {ks : List (Option Expr)} {vs : List Expr} {fk fv : Sx} {g : SR} (hk : PE X k (tE X.K fk)) (hv : PE X v (tE X.K fv)) (hr : PDR X pos ks vs g) : PDR X pos (some k :: ks) (v :: vs) (rCons fk fv g) := by
  obtain ⟨trs, h1, h2⟩ := hr
  refine ⟨_, pps_cons hk hv h1, fun σ H Q ⟨A, S, ρ, w, env, p⟩ => ?_⟩
  refine at_seq (P := PostDR X.K A H Q) w env p (fun h => h) (fun _ _ h => h) fun x S1 xv H1 e1 w1 r1 p1 => ?_
  refine at_seq (P := PostDR X.K A H Q) w1 (env.mono e1) p1 (fun h => h) (fun _ _ h => h) fun y S2 yv H2 e2 w2 r2 p2 => ?_
  refine h2 _ _ _ ⟨A, S2, ρ, w2, (env.mono e1).mono e2, PostDR.seq (P := PostDR X.K A H Q) p2 (fun h => h) (fun _ _ h => h) fun qs S3 kvs H3 e3 w3 r3 p3 => ?_⟩
  split at p3
  case h_2 => exact p3.elim
  rename_i a i ha hb
  split at p3
  case h_2 => exact p3.elim
  rename_i k' hk'
  rw [ha] at r1
  have r1 : Rp X.K A.V H1 xv a := r1
  have r2 := itm_ok hb r2
  rw [Rp.key r1 hk']
  exact p3 ((k', yv) :: kvs) H3 ((e1.trans e2).trans e3) w3 (.cons ⟨rfl, r2.kp e3.kp rfl⟩ r3)
def evDicR (f : SR) : Sx := fun ρ S => (f ρ S).bind fun qs S1 => if qs.length ≤ 15 ∧ (Cell.rcd (rPutAll [] qs)).lt S1.length = true then .ok (.f (.rcd (rPutAll [] qs))) S1 else .no
theorem eDicR {keys : List (Option Expr)} {values : List Expr} {f : SR} (h : PDR X pos keys values f) (hall : keys.all (·.isSome) = true := by rfl) (hl : keys.length = values.length := by rfl) (h0 : keys ≠ [] := by exact List.cons_ne_nil _ _)
    (h15 : keys.length ≤ 15 := by decide) : PE X (.Dict keys values pos) (tE X.K (evDicR f)) := by
  obtain ⟨trs, h1, h2⟩ := h
  refine PEi (pe_disp h1 hall hl h0 h15) fun σ H Q ⟨A, S, ρ, w, env, p⟩ => fun q hq => ?_
  obtain ⟨wP, kP⟩ := w.protNew (u := .dK []) trivial hq
  refine h2 _ _ _ ⟨A.prot q, S, ρ, wP, env.kx kP, ?_⟩
  dsimp only [evDicR] at p
  show PostDR X.K (A.prot q) _ _ (f ρ S)
  cases hf : f ρ S with
  | no => rw [hf] at p; exact p
  | exc e S1 => rw [hf] at p; exact p
  | ok qs S1 =>
    rw [hf] at p
    have p : Post X.K A H Q (if qs.length ≤ 15 ∧ (Cell.rcd (rPutAll [] qs)).lt S1.length = true then .ok (.f (.rcd (rPutAll [] qs))) S1 else .no) := p
    split at p
    case isFalse => exact p.elim
    rename_i hl15
    intro kvs H2 e2 w2 r2
    have nq : q ∉ (A.prot q).A := (w2.pr q (List.mem_cons_self)).1
    have at2 : H2 q = some (.dK []) := e2.keepP upd_same nq (List.mem_cons_self)
    refine ⟨at2, kvs, rfl, by rw [Paired.length r2]; exact hl15.1, ?_⟩
    obtain ⟨w3, k3⟩ := w2.protUpd (p := q) (u := .dK (mergeK [] kvs)) trivial (List.mem_cons_self)
    have e : Ext A H A (L2.upd H2 q (.dK (mergeK [] kvs))) := ⟨rfl, ⟨[], by simp⟩, fun _ h => .inl h, fun b o hb nb => by
      rw [upd_ne (ne_of_none hb hq)]
      obtain ⟨o', a1, a2, a3⟩ := e2.keep b o (by rw [upd_ne (ne_of_none hb hq)]; exact hb) nb
      exact ⟨o', a1, a2, fun m => a3 (List.mem_cons_of_mem _ m)⟩⟩
    exact p q _ e (w3.protOut (k := .rcd _) ⟨_, upd_same, VR.puts (r2.kp k3.2 rfl) .nil⟩ (fun m => w.off hq (Wd.mem.mpr (.inl m))) hl15.2) hq
end
end MV
set_option Elab.async false
set_option linter.all false
set_option maxRecDepth 100000
/-! Readings by mirrors: dicts whose keys are pairs of numbers. -/
namespace MV
open PySem PySem.Spec PyProof.Rows L2
section
variable {X : Cx} {K : Frg} {a b : Expr} {fa fb : Sx} {pos : Pos} {A A' A2 W W' : Wd} {H H' H2 : Hp} {S S' : Sto} {Q : VK} {ρ : Envi} {σ : L2.St} {D : Ends}
/-- no written tuple of the program is a pair of numbers -/
def pairV : List Value → Bool
  | [.int _ _, .int _ _] => true
  | _ => false
def pairO (o : Obj) : Bool := match o.data with
  | .seq its _ => pairV its.toList
  | _ => false
def noPair (K : Frg) : Bool := K.all fun p => !pairO p.2
theorem look_mem {α : Type} {a : Addr} {o : α} : ∀ {K : List (Addr × α)}, K.lookup a = some o → (a, o) ∈ K
  | (b, u) :: K, h => by
    rw [List.lookup_cons] at h
    split at h
    · rename_i e
      cases h
      rw [eq_of_beq e]
      exact List.mem_cons_self
    · exact List.mem_cons_of_mem _ (look_mem h)
def pOf : PyData → Option (Int × Int)
  | .tuple [.int a, .int b] => some (a, b)
  | _ => none
theorem pOf_eq {d : PyData} {k : Int × Int} (h : pOf d = some k) : d = .tuple [.int k.1, .int k.2] := by
  unfold pOf at h
  split at h
  · cases h; rfl
  · cases h
abbrev tkey (p : Int × Int) : List Key := [.inl p.1, .inl p.2]
theorem tkey_inj {p q : Int × Int} : tkey p = tkey q ↔ p = q := by
  constructor
  · intro h
    simp [tkey] at h
    exact Prod.ext h.1 h.2
  · rintro rfl; rfl
end
end MV
set_option Elab.async false
set_option linter.all false
set_option maxRecDepth 100000
/-! sorted(set(x)), x a list or a tuple, of numbers or of pairs of numbers. -/
namespace MV
open PySem PySem.Spec PyProof.Rows L2
section
variable {P : Program} {w : World} {A : Around} {E : Value → Shared → Prop} {s : Shared}
/-- the set that set() lays at first -/
abbrev set0 (w : World) : Obj := { cls := .type "set", dict := none, data := .set #[] 0 (.fresh 0 0 (!w.params.followText "set-order")) }
def KeptS (s s' : Shared) : Prop := s'.gens = s.gens ∧ s'.os = s.os ∧ s'.drawn = s.drawn ∧ ∀ b o, s.heap.get? b = some o → s'.heap.get? b = some o
/-- how far the run of set(x) comes by itself: to the loop over x -/
def LoopAt (P : Program) (w : World) (A : Around) (s : Shared) (l : Addr) (items : Array Value) (R : Shared → Prop) : Prop :=
  ∀ (I : Addr) (St : Nat → Shared → Prop) (s1 : Shared) (D : Result → Shared → Prop), WalksS P w A.in1.in1.in1 I [I, l] [I] (fun a b => b = a) items.size (fun i v => items[i]? = some v) St →
    St 0 s1 → I = s.heap.objs.size + 1 → s.heap.objs.size ∉ [I, l] → KeptS s s1 → s1.heap.get? s.heap.objs.size = some (set0 w) →
    (∀ s', R s' → KeptS s s' → D (.ok (.ret .none)) s') →
    codeAny (model P w) A.in1.in1 (.builtin "set.update.loop" ⟨[.ref s.heap.objs.size, .ref I], []⟩) D s1
theorem keptS_eq {s s' : Shared} (k : KeptS s s') : s' = { s with heap := s'.heap, toks := s'.toks } := by
  obtain ⟨k1, k2, k3, _⟩ := k
  cases s'
  cases s
  dsimp only at k1 k2 k3
  subst k1 k2 k3
  rfl
set_option maxHeartbeats 3200000 in
theorem set_seq {l : Addr} {items : Array Value} {T : String} (hT : T = "list" ∨ T = "tuple") (hh : A.handled = none) (hl : ∃ o n, s.heap.get? l = some o ∧ o.cls = .type T ∧ o.data = .seq items n) {R : Shared → Prop} (loop : LoopAt P w A s l items R)
    {Q : Value → Shared → Prop} (h : ∀ s', R s' → KeptS s s' → Q (.ref s.heap.objs.size) s') : wpAny (model P w) A (call (.type "set") [.ref l]) Q E s := by
  have made := F.called_set.made
  have subs := F.called_set.sub
  have asks := F.called_set.notType
  have can := F.called_set.canCreate
  have way := F.typeCall_set_1 (.ref l)
  obtain ⟨c, tl, line⟩ := F.called_set.mro
  refine wpAny_call (codeAny_of_tree ?_)
  show wpAny _ _ (callAny (.type "set") _) _ _ _
  refine wpAny_pure ⟨Code.quiet_builtin _ (by decide +kernel), codeAny_builtin F.entry_type_call ?_⟩
  rw [Around.under_plain (weight_type_call_type "set" [.ref l] []) rfl]
  repeat (any_goals (first | assumption | wp_step))
  refine codeAny_mono (code_set_led1 (.ref l) (E := E) (Q₁ := fun u s1 => u = .ref s.heap.objs.size ∧ s1 = { s with heap := s.heap.push (set0 w) }) ⟨rfl, rfl⟩) fun r s1 hr => ?_
  rcases r with e | (_ | _ | _ | u)
  · exact hr
  · exact hr.elim
  · exact hr.elim
  · exact hr.elim
  obtain ⟨rfl, rfl⟩ := hr
  have here : (s.heap.push (set0 w)).get? s.heap.objs.size = some (set0 w) := Heap.get?_push_size _ rfl
  have isS : Shared.TypeIs { s with heap := s.heap.push (set0 w) } (.ref s.heap.objs.size) "set" := ⟨_, here, rfl⟩
  have li := F.called_set.init.lookup
  have bi := F.called_set.init.bind (.ref s.heap.objs.size)
  repeat (any_goals (first | assumption | wp_step))
  refine codeAny_mono (codeAny_call_builtin (R := wants (fun r s' => r = .none ∧ R s' ∧ KeptS s s') E) F.called_set.init.plain F.entry_set_init (check_set_init_1 isS ?_)) fun r s2 hr => ?_
  · obtain ⟨⟨oc, od, odt, osl⟩, n, ho, hc, hd⟩ := hl
    dsimp only at hc hd
    subst hc hd
    have low : l < s.heap.objs.size := Heap.lt_size ho
    have hh3 : A.in1.in1.in1.handled = none := by simp [hh]
    have big : (s.heap.push (set0 w)).objs.size = s.heap.objs.size + 1 := Heap.size_push ..
    have ho' : (s.heap.push (set0 w)).get? l = some ⟨.type T, od, .seq items n, osl⟩ := Heap.get?_push_of_some _ ho
    have off : l ≠ (s.heap.push (set0 w)).objs.size := by rw [big]; exact Nat.ne_of_lt (Nat.lt_succ_of_lt low)
    have out : s.heap.objs.size ∉ [(s.heap.push (set0 w)).objs.size, l] := by
      rw [big]
      simp only [List.mem_cons, List.not_mem_nil, or_false, not_or]
      exact ⟨Nat.ne_of_lt (Nat.lt_succ_self _), Nat.ne_of_gt low⟩
    have keep : ∀ (it : Obj) b o, s.heap.get? b = some o → ((s.heap.push (set0 w)).push it).get? b = some o := fun it b o e => Heap.get?_push_of_some _ (Heap.get?_push_of_some _ e)
    have fin : ∀ {D : Result → Shared → Prop}, (∀ s', R s' → KeptS s s' → D (.ok (.ret .none)) s') → ∀ s', R s' → KeptS s s' → D (.ok (.ret .none)) s' := fun h => h
    rcases hT with rfl | rfl
    · have a1 := F.sub_list_set
      have a2 := F.sub_list_frozenset
      have a3 : (Value.type "list" == Value.type "dict") = false := by decide
      unfold Builtin.«set.__init__» noKeywords Builtin.Frozenset.updateFrom
      generalize hPI : pyIter = PI
      wp_walk
      subst hPI
      refine wpAny_pyIter_list ⟨_, ho', rfl, n, rfl⟩ ?_
      refine wpAny_bind (wpAny_runValue ?_)
      refine loop _ _ _ _ ((Walks.list hh3 _ l off items).toS) ⟨⟨_, Heap.get?_push_size _ rfl, rfl, rfl⟩, ⟨_, Heap.get?_push_of_some _ ho', rfl, n, rfl⟩⟩ big out ⟨rfl, rfl, rfl, keep _⟩ (Heap.get?_push_of_some _ here) fun s' h1 h2 => ?_
      show wpAny _ _ _ _ _ _
      refine wpAny_pure ?_
      show wpAny _ _ (ret Value.none) _ _ _
      exact wpAny_pure ⟨rfl, h1, h2⟩
    · have a1 := F.sub_tuple_set
      have a2 := F.sub_tuple_frozenset
      have a3 : (Value.type "tuple" == Value.type "dict") = false := by decide
      unfold Builtin.«set.__init__» noKeywords Builtin.Frozenset.updateFrom
      generalize hPI : pyIter = PI
      wp_walk
      subst hPI
      refine wpAny_pyIter_tuple ⟨_, ho', rfl, n, rfl⟩ ?_
      refine wpAny_bind (wpAny_runValue ?_)
      refine loop _ _ _ _ ((Walks.tuple hh3 _ l off items).toS) ⟨⟨_, Heap.get?_push_size _ rfl, rfl, rfl⟩, ⟨_, Heap.get?_push_of_some _ ho', rfl, n, rfl⟩⟩ big out ⟨rfl, rfl, rfl, keep _⟩ (Heap.get?_push_of_some _ here) fun s' h1 h2 => ?_
      show wpAny _ _ _ _ _ _
      refine wpAny_pure ?_
      show wpAny _ _ (ret Value.none) _ _ _
      exact wpAny_pure ⟨rfl, h1, h2⟩
  · rcases r with e | (_ | _ | _ | u)
    · exact hr
    · exact hr.elim
    · exact hr.elim
    · exact hr.elim
    obtain ⟨rfl, h1, h2⟩ := hr
    repeat (any_goals (first | assumption | wp_step))
    exact h s2 h1 h2
theorem moved_kept {s1 s' : Shared} {wr : List Addr} {S : Addr} (k : KeptS s s1) (hS : ∀ b ∈ S :: wr, s.heap.get? b = none) (m : Moved (S :: wr) (fun a b => b = a) s1 s') : KeptS s s' := by
  obtain ⟨k1, k2, k3, k4⟩ := k
  refine ⟨(show s'.gens = s1.gens from m.gens).trans k1, m.os.trans k2, m.drawn.trans k3, fun b o e => m.heap b o (fun hb => ?_) (k4 b o e)⟩
  rw [hS b hb] at e
  cases e
theorem loop_ints {l : Addr} {items : Array Value} (ns : List Int) (hi : IntsAre items.toList ns) (hb : ns.length + 1 < scanBound) :
    LoopAt P w A s l items fun s' => ∃ c, SetR w s'.heap s.heap.objs.size (fun j => decide (j ∈ ns)) c ∧ c ≤ ns.length := by
  intro I St s1 D W hSt eI out k here fin
  have hn : items.size = ns.length := by
    have q := IntsAre.length hi
    rw [Array.length_toList] at q
    exact q
  have hval : ∀ (i : Nat) (v : Value), items[i]? = some v → ∃ k t, ns[i]? = some k ∧ v = .int k t := fun i v hv => by
    have hi' : i < ns.length := by rw [← hn]; exact (Array.getElem?_eq_some_iff.mp hv).1
    obtain ⟨t, e⟩ := IntsAre.int_at hi i v (by rw [Array.getElem?_toList]; exact hv)
    refine ⟨ns[i], t, List.getElem?_eq_getElem hi', ?_⟩
    rw [e, List.getD_eq_getElem?_getD, List.getElem?_eq_getElem hi']
    rfl
  refine set_update_ints W s.heap.objs.size out ns hn hb hval (items.size - 0) 0 s1 rfl (Nat.zero_le _) hSt ⟨0, Nat.le_refl 0, setR_new_at here⟩ fun s' c m hc hR => ?_
  refine fin s' ⟨c, hR, by omega⟩ (moved_kept k (fun b hb => ?_) m)
  simp only [List.mem_cons, List.not_mem_nil, or_false] at hb
  rcases hb with e | e
  · rw [e]; exact Heap.get?_none_of_le (Nat.le_refl _)
  · rw [e, eI]; exact Heap.get?_none_of_le (Nat.le_succ _)
theorem loop_tups {l : Addr} {items : Array Value} (ks : List (Addr × List Int)) (hit : items.toList = ks.map fun p => Value.ref p.1) (hk : ∀ p ∈ ks, IsT P w s.heap p.2 p.1) (hfew : ks.length < 64) (hu : A.units + 3 < cLine) :
    LoopAt P w A s l items fun s' => ∃ L es ep t, SetTR P w s'.heap s.heap.objs.size L es ep t ∧ Got ks ks.length L := by
  intro I St s1 D W hSt eI out k here fin
  have hn : items.size = ks.length := by
    have q := congrArg List.length hit
    rw [Array.length_toList, List.length_map] at q
    exact q
  have hval : ∀ (i : Nat) (v : Value), items[i]? = some v → ∃ p, ks[i]? = some p ∧ v = .ref p.1 := fun i v hv => by
    have q : (ks.map fun p => Value.ref p.1)[i]? = some v := by rw [← hit, Array.getElem?_toList]; exact hv
    rw [List.getElem?_map] at q
    obtain ⟨p, h1, h2⟩ := Option.map_eq_some_iff.mp q
    exact ⟨p, h1, h2.symm⟩
  have new : ∀ b, b = s.heap.objs.size ∨ b = I → s.heap.get? b = none := fun b hb => by
    rcases hb with e | e
    · rw [e]; exact Heap.get?_none_of_le (Nat.le_refl _)
    · rw [e, eI]; exact Heap.get?_none_of_le (Nat.le_succ _)
  refine set_update_tups W s.heap.objs.size out ks hn hfew hval s.heap hk (new _ (.inl rfl)) (fun b hb => new b (.inr (List.mem_singleton.mp hb))) hu (items.size - 0) 0 s1 rfl (Nat.zero_le _) hSt k.2.2.2 ⟨[], #[], 0, _, setTR_fresh here, Got.zero ks⟩ fun s' L es ep t m hR g _ => ?_
  rw [hn] at g
  refine fin s' ⟨L, es, ep, t, hR, g⟩ (moved_kept k (fun b hb => ?_) m)
  simp only [List.mem_cons, List.not_mem_nil, or_false] at hb
  exact new b hb
end
section
variable {X : Cx} {K : Frg} {a b : Expr} {fa fb : Sx} {pos : Pos} {A A' A2 : Wd} {H H' H2 : Hp} {S S' : Sto} {Q : VK} {ρ : Envi} {σ : L2.St} {D : Ends}
/-- at l stands a list, a tuple of these -/
def SqB (K : Frg) (H : Hp) (t : Bool) (l : Addr) (xs : List V) : Prop := if t = true then SqT K H l xs else SqL K H l xs
theorem sqB_at {pins : List (Addr × Obj)} {s : Shared} {t : Bool} {l : Addr} {xs : List V} (I : Inv X pins σ H s) (h : SqB X.K H t l xs) : ∃ its : List Value, Vals xs its ∧ ∃ T, (T = "list" ∨ T = "tuple") ∧ ∃ o n, s.heap.get? l = some o ∧ o.cls = .type T ∧ o.data = .seq its.toArray n := by
  unfold SqB at h
  split at h
  · obtain ⟨its, rv, ⟨o, h1, h2, n, h3⟩, _⟩ := I.tuple h
    exact ⟨its, rv, "tuple", .inr rfl, o, n, h1, h2, h3⟩
  · obtain ⟨its, rv, ⟨o, n, h1, h2, _, h3⟩, _⟩ := I.list h
    exact ⟨its, rv, "list", .inl rfl, o, n, h1, h2, h3⟩
theorem cr_setI (hc : X.calm = true) : CallR X (.type "set") (fun xs H Q => ∃ (t : Bool) (l : Addr) (ns : List Int), xs = [.ref l] ∧ SqB X.K H t l (ns.map V.int) ∧ ns.length < 64 ∧ ∀ a c, H a = none → c ≤ ns.length → Q (.ref a) (L2.upd H a (SetO X.w a (fun j => decide (j ∈ ns)) c))) := by
  intro pins s σ H xs us Q I r h
  obtain ⟨t, l, ns, rfl, hl, hf, q⟩ := h
  rw [Vals.ref1 r]
  obtain ⟨its, rv, T, hT, ob⟩ := sqB_at I hl
  refine set_seq (P := X.prog) (w := X.w) hT (I.ok.hd hc) ob (loop_ints ns (by simpa using rv.ints) (by unfold scanBound; omega)) fun s' ⟨c, R, hcn⟩ k => ?_
  have e := keptS_eq k
  rw [e]
  exact ⟨.ref s.heap.objs.size, _, I.laid (t' := s'.toks) k.2.2.2 (Nat.le_refl _) (setO_new R), rfl, q _ c (I.hok.fresh (Nat.le_refl _)) hcn⟩
theorem cr_setT (hc : X.calm = true) (hu : X.A.units + 64 < cLine) : CallR X (.type "set") (fun xs H Q => ∃ (t : Bool) (l : Addr) (ks : List (Addr × List Int)), xs = [V.ref l] ∧ SqB X.K H t l (ks.map fun p => V.ref p.1) ∧ (∀ p ∈ ks, SqT X.K H p.1 (p.2.map V.int)) ∧ ks.length < 64 ∧
    ∀ a L, H a = none → (∀ p ∈ L, p ∈ ks) → (∀ p ∈ ks, p.2 ∈ L.map (·.2)) → Q (.ref a) (L2.upd H a (SetTO X.prog X.w a L))) := by
  intro pins s σ H xs us Q I r h
  obtain ⟨t, l, ks, rfl, hl, hk, hf, q⟩ := h
  rw [Vals.ref1 r]
  obtain ⟨its, rv, T, hT, ob⟩ := sqB_at I hl
  have hn : H s.heap.objs.size = none := I.hok.fresh (Nat.le_refl _)
  refine set_seq (P := X.prog) (w := X.w) hT (I.ok.hd hc) ob (loop_tups ks (by simpa using refs_of_vals rv) (fun p hp => I.isT (hk p hp)) hf (by omega)) fun s' ⟨L, es, ep, t, R, g⟩ k => ?_
  have e := keptS_eq k
  rw [e]
  refine ⟨.ref s.heap.objs.size, L2.upd H s.heap.objs.size (SetTO X.prog X.w s.heap.objs.size L), I.laid (t' := s'.toks) k.2.2.2 (Nat.le_refl _) (setTO_new R.t0), rfl, q _ L hn (fun p hp => ?_) fun p hp => ?_⟩
  · exact List.mem_of_mem_take (g.sub p hp)
  · exact g.all p (by rw [List.take_length]; exact hp)
/-! ### sorted(set(x)) -/
def gSorS (v : Val) (S : Sto) : Res Val := match seqOf S v with
  | some q => match intsOf q.2.1 with
    | some ns => if ns.length < 60 then .ok (.f (.lst (((dd ns).mergeSort fun a b => decide (a ≤ b)).map .int))) S else .no
    | none => match pairsI q.2.1 with
      | some ps => if ps.length < 64 ∧ ps.all (fun p => decide (0 ≤ p.1 ∧ p.1 < 1000 ∧ 0 ≤ p.2 ∧ p.2 < 1000)) = true then .ok (.f (.lst (((dd ps).mergeSort pleb).map fun p => .tuple [.int p.1, .int p.2]))) S else .no
      | none => .no
  | none => .no
def evSorS (f : Sx) : Sx := fun ρ S => (f ρ S).bind fun v S1 => gSorS v.th S1
theorem eSorS {e : Expr} {f : Sx} {p p2 q : Pos} (hc : X.calm = true) (hu : X.A.units + 100 < cLine) (hg : Gl X "sorted") (hm : X.mg "sorted" = none) (hg2 : Gl X "set") (hm2 : X.mg "set" = none) (ha : PE X e (tE X.K f))
    (hs : starEach [e] X.env = (false, eval e X.env) :: starEach [] X.env := by rfl) : PE X (.Call (.Name "sorted" p) [.Call (.Name "set" p2) [e] [] q] [] pos) (tE X.K (evSorS f)) :=
  PEi (pe_callB (CallR.or (cr_sortedSet hc) (cr_sortedT hc)) hg hm (by decide +kernel) (pa_cons (pe_callTy (CallR.or (cr_setI hc) (cr_setT hc (by omega))) hg2 hm2 (by decide +kernel) (pa_cons ha pa_nil hs) (by decide) (by decide) hs) pa_nil)) fun σ H Q ⟨A, S, ρ, w, env, p⟩ =>
  at_seq (P := Post X.K A H Q) w env p (fun h => h) (fun _ _ h => h) fun v S1 x H1 e1 w1 r1 p1 => by
    unfold gSorS at p1
    split at p1
    case h_2 => exact p1.elim
    rename_i q hq
    obtain ⟨a, xs, rfl, r1', sq⟩ := seq_at (t := q.1) (ds := q.2.1) (g := q.2.2) hq w1 r1
    have sq : SqB X.K H1 q.1 a xs := sq
    generalize q.2.1 = ds at r1' p1
    generalize q.1 = t at sq
    split at p1
    · rename_i ns hns
      split at p1
      case isFalse => exact p1.elim
      rename_i hl
      have e := intsOf_ok hns
      subst e
      have e := r1'.ints
      subst e
      refine .inl ⟨t, a, ns, rfl, sq, by omega, fun a2 c ha2 hcn => .inl ⟨a2, _, c, rfl, upd_same, by omega, fun ns' p3 h1 h2 h3 hp3 => ?_⟩⟩
      have e4 : ns' = (dd ns).mergeSort fun a b => decide (a ≤ b) := by
        refine isort_eq ?_ (h1.imp fun h => by omega)
        refine (List.perm_ext_iff_of_nodup (h1.imp fun h => by omega) (nodup_dd ns)).mpr fun k => ?_
        rw [h2, mem_dd, decide_eq_true_iff]
      rw [e4]
      have e5 := Ext.laid (W := A) (o := SetO X.w a2 (fun j => decide (j ∈ ns)) c) ha2
      exact Post.fresh (p1.shift (e1.trans e5) (w1.laid ha2)) (w1.laid ha2) hp3 (RpL.of_ints _)
    · split at p1
      case h_2 => exact p1.elim
      rename_i ps hps
      split at p1
      case isFalse => exact p1.elim
      rename_i hl
      have e := pairsI_ok hps
      subst e
      obtain ⟨ks, e1', e2, e3⟩ := pairs_addr r1'
      subst e1'
      have hlen : ks.length = ps.length := by
        have := congrArg List.length e2
        simpa using this
      have form : ∀ k ∈ ks, ∃ q ∈ ps, k.2 = [q.1, q.2] := fun k hk => by
        have : k.2 ∈ ks.map (·.2) := List.mem_map_of_mem hk
        rw [e2] at this
        obtain ⟨q, h1, h2⟩ := List.mem_map.mp this
        exact ⟨q, h1, h2.symm⟩
      have bd : ∀ q ∈ ps, (0 ≤ q.1 ∧ q.1 < 1000) ∧ 0 ≤ q.2 ∧ q.2 < 1000 := fun q hq => by
        have := List.all_eq_true.mp hl.2 q hq
        simp only [decide_eq_true_eq] at this
        omega
      refine .inr ⟨t, a, ks, rfl, sq, fun k hk => (e3 k hk).2, by omega, fun a2 L ha2 hL1 hL2 => .inr ⟨a2, L, 2, 1000, rfl, upd_same, fun k hk => ?_, by decide, fun k hk => ?_, fun L' p3 h1 h2 h3 h4 hp3 => ?_⟩⟩
      · exact sqT_laid (e3 k (hL1 k hk)).2 ha2
      · obtain ⟨q, hq, e4⟩ := form k (hL1 k hk)
        rw [e4]
        refine ⟨rfl, fun m hm => ?_⟩
        have := bd q hq
        simp at hm
        rcases hm with rfl | rfl
        · exact this.1
        · exact this.2
      · have formL : ∀ k ∈ L', ∃ q ∈ ps, k.2 = [q.1, q.2] := fun k hk => form k (hL1 k (h1.mem_iff.mp hk))
        have e5 : L'.map (fun k => unL k.2) = (dd ps).mergeSort pleb := by
          refine psort_eq ((List.perm_ext_iff_of_nodup ?_ (nodup_dd ps)).mpr fun q => ?_) ?_
          · rw [List.Nodup, List.pairwise_map]
            have h2' : L'.Pairwise fun k k' => k.2 ≠ k'.2 := List.pairwise_map.mp h2
            refine h2'.imp_of_mem fun {k k'} hk hk' ne e => ne ?_
            obtain ⟨q, _, q1⟩ := formL k hk
            obtain ⟨q', _, q2⟩ := formL k' hk'
            rw [q1, q2] at e ⊢
            simp [unL] at e
            rw [e.1, e.2]
          · rw [mem_dd]
            constructor
            · intro hq
              obtain ⟨k, hk, e⟩ := List.mem_map.mp hq
              obtain ⟨q', hq', e'⟩ := formL k hk
              rw [e'] at e
              rw [← e]; exact hq'
            · intro hq
              have m1 : ([q.1, q.2] : List Int) ∈ ks.map (·.2) := by rw [e2]; exact List.mem_map_of_mem (f := fun p : Int × Int => [p.1, p.2]) hq
              obtain ⟨k, hk, ek⟩ := List.mem_map.mp m1
              obtain ⟨k2, hk2, ek2⟩ := List.mem_map.mp (hL2 k hk)
              refine List.mem_map.mpr ⟨k2, h1.mem_iff.mpr hk2, ?_⟩
              have e7 : k2.2 = [q.1, q.2] := ek2.trans ek
              rw [e7]; rfl
          · rw [List.pairwise_map]
            refine h4.imp_of_mem fun {k k'} hk hk' h => ?_
            obtain ⟨q, hq, e⟩ := formL k hk
            obtain ⟨q', hq', e'⟩ := formL k' hk'
            rw [e, e'] at h
            rw [e, e']
            exact code_lex h (bd q hq).1 (bd q hq).2 (bd q' hq').1 (bd q' hq').2
        have e6 : ((dd ps).mergeSort pleb).map (fun p => PyData.tuple [.int p.1, .int p.2]) = L'.map fun k => .tuple (k.2.map .int) := by
          rw [← e5, List.map_map]
          refine List.map_congr_left fun k hk => ?_
          obtain ⟨q, _, e⟩ := formL k hk
          simp only [Function.comp, e]; rfl
        rw [e6] at p1
        have ex := Ext.laid (W := A) (o := SetTO X.prog X.w a2 L) ha2
        refine Post.fresh (p1.shift (e1.trans ex) (w1.laid ha2)) (w1.laid ha2) hp3 ?_
        have all : ∀ M : List (Addr × List Int), (∀ k ∈ M, k ∈ ks) → RpL X.K A.V (L2.upd H1 a2 (SetTO X.prog X.w a2 L)) (M.map fun q => V.ref q.1) (M.map fun k => PyData.tuple (k.2.map .int)) := by
          intro M
          induction M with
          | nil => intro _; exact .nil
          | cons k M ih =>
            intro h
            exact .cons ((e3 k (h k (by simp))).1.mono ex.kp) (ih fun k' hk' => h k' (List.mem_cons_of_mem _ hk'))
        exact all L' fun k hk => hL1 k (h1.mem_iff.mp hk)
end
end MV
set_option Elab.async false
set_option linter.all false
set_option maxRecDepth 100000
/-! Readings by mirrors: lists of lists: made by a comprehension, read, walked; two items changed about. -/
namespace MV
open PySem PySem.Spec PyProof.Rows L2
section
variable {X : Cx} {K : Frg} {a b : Expr} {fa fb : Sx} {pos : Pos} {A A' A2 W W' : Wd} {H H' H2 : Hp} {S S' : Sto} {Q : VK} {ρ : Envi} {σ : L2.St} {D : Ends}
/-- the list of lists that v is -/
def nlsOf (S : Sto) : Val → Option (Nat × List Itm)
  | .c n => match S[n]? with
    | some (.nls is) => some (n, is)
    | _ => none
  | _ => none
theorem nlsOf_ok {x : V} {v : Val} {n : Nat} {is : List Itm} (w : Wf K A S H) (r : Rv K A H x v) (h : nlsOf S v = some (n, is)) : ∃ a xs, A.A[n]? = some a ∧ x = .ref a ∧ H a = some (.lst xs) ∧ Paired (ItmOk K A H) xs is ∧ S[n]? = some (.nls is) := by
  cases v with
  | c m =>
    have h : (match S[m]? with
      | some (.nls es) => some (m, es)
      | _ => none) = some (n, is) := h
    split at h
    · rename_i es q
      cases h
      obtain ⟨a, h1, rfl⟩ := r
      obtain ⟨xs, h2, h3⟩ := w.ok n a _ h1 q
      exact ⟨a, xs, h1, rfl, h2, h3, q⟩
    · cases h
  | _ => cases h
theorem paired_getI {α β : Type} {R : α → β → Prop} : ∀ {xs : List α} {ys : List β} {j : Nat} {y : β}, Paired R xs ys → ys[j]? = some y → ∃ x, xs[j]? = some x ∧ R x y
  | _, _, _, _, .nil, h => by cases h
  | _, _, 0, _, .cons r _, h => by cases h; exact ⟨_, rfl, r⟩
  | _, _, j + 1, _, .cons _ t, h => paired_getI (j := j) t h
theorem paired_getX {α β : Type} {R : α → β → Prop} : ∀ {xs : List α} {ys : List β} {j : Nat} {x : α}, Paired R xs ys → xs[j]? = some x → ∃ y, ys[j]? = some y ∧ R x y
  | _, _, _, _, .nil, h => by cases h
  | _, _, 0, _, .cons r _, h => by cases h; exact ⟨_, rfl, r⟩
  | _, _, j + 1, _, .cons _ t, h => paired_getX (j := j) t h
/-! ### x[i] -/
def gIxN : Val → Val → Sto → Res Val := fun v w S => match nlsOf S v with
  | some q => match w with
    | .d (.int i) => match L2.atI q.2 i with
      | some z => .ok z.val S
      | none => .no
    | _ => .no
  | none => gIx v w S
theorem xIxN (hu : X.A.units + 1 < cLine) : IxR X (rO X.K gIxN) := by
  intro value slice pins s σ H x y u u' Q I ru ru' ⟨A, S, v, w, wf, rv, rw, p⟩ hs
  unfold gIxN at p
  split at p
  case h_2 => exact xIx hu value slice pins s σ H x y u u' Q I ru ru' ⟨A, S, v, w, wf, rv, rw, p⟩ hs
  rename_i q hq
  split at p
  case h_2 => exact p.elim
  rename_i i
  split at p
  case h_2 => exact p.elim
  rename_i z hz
  obtain ⟨a, xs, ha, e1, h1, h2, _⟩ := nlsOf_ok (n := q.1) (is := q.2) wf rv hq
  have key : ∃ zz, L2.atI xs i = some zz ∧ ItmOk X.K A H zz z := by
    unfold L2.atI at hz ⊢
    rw [Paired.length h2]
    cases e : ixN q.2.length i with
    | none => rw [e] at hz; cases hz
    | some j =>
      rw [e] at hz
      exact paired_getI h2 hz
  obtain ⟨zz, hzz, ok⟩ := key
  refine ix_list value slice pins s σ H x y u u' Q I ru ru' ⟨a, xs, _, zz, e1, Rp.int_inv rw, .inl (.inl h1), hzz, ?_⟩ hs
  cases z with
  | d x => exact p zz H .refl wf ok
  | c m => obtain ⟨b, hb, rfl⟩ := ok; exact p b H .refl wf hb
theorem eIxN (hu : X.A.units + 100 < cLine) (ha : PE X a (tE X.K fa)) (hb : PE X b (tE X.K fb)) (hs : PlainIx b := by exact fun _ _ => rfl) : PE X (.Subscript a b pos) (tE X.K (ev2 gIxN fa fb)) := PEi (pe_ix (xIxN (by omega)) ha hb hs) fun _ _ _ => ev2_ok
/-! ### two readings of one expression -/
def notV (i : Nat) (k : Int) : Envi → Bool := fun ρ => match ρ[i]? with
  | some (some (.d (.int j))) => j != k
  | _ => true
def evIf2 (c : Envi → Bool) (f g : Sx) : Sx := fun ρ S => if c ρ = true then f ρ S else g ρ S
theorem tE_if2 {c : Envi → Bool} {f g : Sx} (h : tE K (evIf2 c f g) σ H Q) : tE K f σ H Q ∨ tE K g σ H Q := by
  obtain ⟨A, S, ρ, w, env, p⟩ := h
  unfold evIf2 at p
  split at p
  · exact .inl ⟨A, S, ρ, w, env, p⟩
  · exact .inr ⟨A, S, ρ, w, env, p⟩
/-! ### a list of new lists -/
open Classical in
noncomputable def gGo (bd : Bnd) (e : Sx) (ρ : Envi) (base : Sto) : List PyData → List Cell → Option (List Cell)
  | [], acc => some acc
  | x :: xs, acc => match bd.go x ρ with
    | some ρ1 => match e ρ1 (base ++ acc) with
      | .ok (.f (.lst l)) S2 => if S2 = base ++ acc then gGo bd e ρ base xs (acc ++ [.lst l]) else none
      | _ => none
    | none => none
def nlsC (n k : Nat) : Cell := .nls ((List.range k).map fun j => .c (n + j))
noncomputable def evCompG (src : SI) (bd : Bnd) (e : Sx) (own : List Nat) : Sx := fun ρ S => (src ρ S).bind fun s S1 => match s.g with
  | [] => if s.items.length ≤ sizeLine then match gGo bd e (wipeE ρ own) S1 s.items [] with
      | some acc => .ok (.g (acc ++ [nlsC S1.length acc.length]) acc.length) S1
      | none => .no
    else .no
  | _ => .no
theorem prot_pushs {as : List Addr} {D : Addr} : (A.prot D).pushs as = (A.pushs as).prot D := rfl
theorem pushs_push {as : List Addr} {a : Addr} : (A.pushs as).push a = A.pushs (as ++ [a]) := by
  unfold Wd.pushs Wd.push
  rw [List.append_assoc]
theorem nls_ok {W : Wd} {n : Nat} : ∀ (as : List Addr), (∀ (j : Nat) (a : Addr), as[j]? = some a → W.A[n + j]? = some a) → Paired (ItmOk K W H) (as.map V.ref) ((List.range as.length).map fun j => .c (n + j)) := by
  have key : ∀ (as : List Addr) (k : Nat), (∀ (j : Nat) (a : Addr), as[j]? = some a → W.A[n + (k + j)]? = some a) → Paired (ItmOk K W H) (as.map V.ref) ((List.range as.length).map fun j => .c (n + (k + j))) := by
    intro as
    induction as with
    | nil => intro k h; exact .nil
    | cons a as ih =>
      intro k h
      rw [List.length_cons, List.range_succ_eq_map, List.map_cons, List.map_cons, List.map_map]
      refine .cons ⟨a, h 0 a rfl, rfl⟩ ?_
      have z := ih (k + 1) fun j b hb => by
        have := h (j + 1) b hb
        rwa [show k + (j + 1) = k + 1 + j by omega] at this
      have e : ((fun j => Itm.c (n + (k + j))) ∘ Nat.succ) = fun j => Itm.c (n + (k + 1 + j)) := by
        funext j
        show Itm.c (n + (k + (j + 1))) = _
        rw [show k + (j + 1) = k + 1 + j by omega]
      rw [e]
      exact z
  intro as h
  have z := key as 0 fun j a ha => by rw [Nat.zero_add]; exact h j a ha
  simpa using z
theorem comp_okG {src : SI} {bd : Bnd} {e : Sx} {own : List Nat} (hsub : ∀ j ∈ bd.sl, j ∈ own) (h : tE K (evCompG src bd e own) σ H Q) : tLc (tI K src) (tG K bd) (tB K bYes) (tE K e) own σ H Q := by
  obtain ⟨A, S, ρ, w, env, p⟩ := h
  refine ⟨A, S, ρ, w, env, PostI.seq (P := Post K A H Q) p (fun h => h) (fun _ _ h => h) fun s S1 J B H1 e1 w1 sw b1 p1 => ?_⟩
  split at p1
  case h_2 => exact p1.elim
  rename_i hg
  split at p1
  case isFalse => exact p1.elim
  rename_i hlen
  split at p1
  case h_2 => exact p1.elim
  rename_i fin hfin
  have gk : ∀ S, GOk S s := fun S p hp => by rw [hg] at hp; cases hp
  intro D hD
  have hDP : D ∉ A.P := fun m => w1.off hD (Wd.mem.mpr (.inl m))
  obtain ⟨wD, kD⟩ := w1.protNew (u := .lst []) trivial hD
  have envD := ((env.mono e1).wipe own).kx kD
  refine ⟨fun i m H' => i + m = s.items.length ∧ ∃ (acc : List Cell) (as : List Addr), acc.length ≤ i ∧ as.length = acc.length ∧ Wf K ((A.prot D).pushs as) (S1 ++ acc) H' ∧ (∀ b o, H1 b = some o → b ∉ A.A → ∃ o', H' b = some o' ∧ Fz o o' ∧ (b ∈ A.P → o' = o)) ∧ (∀ b ∈ as, H1 b = none) ∧ H' D = some (.lst (as.map V.ref)) ∧
      B ((A.prot D).pushs as) H' ∧ REnv K ((A.prot D).pushs as) H' (wipeE ρ own) (wipe σ own) ∧ gGo bd e (wipeE ρ own) S1 (s.items.drop i) acc = some fin,
    ⟨s.items.length, by simp, [], [], Nat.le_refl _, rfl, ?_, ?_, by simp, upd_same, ?_, ?_, hfin⟩, ?_⟩
  · have : (A.prot D).pushs [] = A.prot D := by unfold Wd.pushs; rw [List.append_nil]
    rw [this, List.append_nil]
    exact wD
  · intro b o hb nb
    rw [upd_ne (ne_of_none hb hD)]
    exact ⟨o, hb, .inl rfl, fun _ => rfl⟩
  · have : (A.prot D).pushs [] = A.prot D := by unfold Wd.pushs; rw [List.append_nil]
    rw [this]
    exact sw.mono _ _ _ _ kD b1
  · have : (A.prot D).pushs [] = A.prot D := by unfold Wd.pushs; rw [List.append_nil]
    rw [this]
    exact envD
  rintro i m H' ⟨him, acc, as, hacc, hal, w, keep, fresh, hx, b, env, go⟩
  have nDA : D ∉ ((A.prot D).pushs as).A := (w.pr D (List.mem_cons_self)).1
  by_cases hi : i < s.items.length
  · rw [List.drop_eq_getElem_cons hi] at go
    refine .inr ⟨sw.goes i _ _ H' hi w b (gk _), fun H' => ∃ (acc : List Cell) (as : List Addr), acc.length ≤ i + 1 ∧ as.length = acc.length ∧ Wf K ((A.prot D).pushs as) (S1 ++ acc) H' ∧ (∀ b o, H1 b = some o → b ∉ A.A → ∃ o', H' b = some o' ∧ Fz o o' ∧ (b ∈ A.P → o' = o)) ∧ (∀ b ∈ as, H1 b = none) ∧ H' D = some (.lst (as.map V.ref)) ∧
      B ((A.prot D).pushs as) H' ∧ REnv K ((A.prot D).pushs as) H' (wipeE ρ own) (wipe σ own) ∧ gGo bd e (wipeE ρ own) S1 (s.items.drop (i + 1)) acc = some fin, fun H' h => ⟨m - 1, by omega, by omega, h⟩, fun x H'' y => ?_⟩
    obtain ⟨d, hd, e2, w2, r2⟩ := sw.yields i _ _ H' x H'' hi w b (gk _) y
    rw [List.getElem?_eq_getElem hi] at hd
    cases hd
    unfold gGo at go
    split at go
    case h_2 => cases go
    rename_i ρ1 hρ
    refine ⟨(A.prot D).pushs as, wipeE ρ own, _, ρ1, env.mono e2, r2, hρ, fun σ2 hl hj env2 => ⟨wipe_back hl fun j hn => hj j fun m => hn (hsub j m), (A.prot D).pushs as, S1 ++ acc, ρ1, w2, env2, ?_⟩⟩
    show PostB K _ _ _ (.ok true (S1 ++ acc))
    intro H3 e3 w3
    rw [if_pos rfl]
    refine ⟨(A.prot D).pushs as, S1 ++ acc, ρ1, w3, env2.mono e3, ?_⟩
    split at go
    case h_2 => cases go
    rename_i l S2 he
    split at go
    case isFalse => cases go
    rename_i hS
    subst hS
    rw [he]
    intro c H4 e4 w4 hc
    have e24 := (e2.trans e3).trans e4
    have hx4 := e24.keepL hx nDA
    have eg : Ext ((A.prot D).pushs as) H' (((A.prot D).pushs as).pushs [c]) H4 := e24.grows (K := K) fun b hb => by
      rw [List.mem_singleton.mp hb]
      exact (e2.trans e3).free w3 hc
    have epu : ((A.prot D).pushs as).push c = ((A.prot D).pushs as).pushs [c] := rfl
    have ew : ((A.prot D).pushs as).pushs [c] = (A.prot D).pushs (as ++ [c]) := by
      unfold Wd.pushs
      rw [List.append_assoc]
    rw [epu, ew] at w4
    rw [ew] at eg
    have cf : H' c = none := (e2.trans e3).free w3 hc
    obtain ⟨w5, k5⟩ := w4.protUpd (p := D) (u := .lst (as.map V.ref ++ [.ref c])) trivial (List.mem_cons_self)
    have hD1 : H1 D = none := hD
    have c1 : H1 c = none := by
      cases q : H1 c with
      | none => rfl
      | some o =>
        exfalso
        by_cases mA : c ∈ A.A
        · exact w.offA cf (List.mem_append_left _ mA)
        · obtain ⟨o', h1, _⟩ := keep c o q mA
          rw [h1] at cf
          cases cf
    refine ⟨as.map V.ref, hx4, ?_, acc ++ [.lst l], as ++ [c], by rw [List.length_append, List.length_singleton]; omega, by simp [hal], ?_, fun b o hb nb => ?_, fun b hb => ?_, ?_, sw.mono _ _ _ _ k5 (sw.mono _ _ _ _ eg.kx b), (env.mono eg).kx k5, go⟩
    · rw [List.length_map]
      omega
    · rw [← List.append_assoc]
      exact w5
    · rw [upd_ne (ne_of_none hb hD1)]
      obtain ⟨o1, a1, a2, a3⟩ := keep b o hb nb
      refine (fun h => let ⟨o2, b1, b2, b3⟩ := e24.keep b o1 a1 h; ⟨o2, b1, a2.trans b2, fun m => (b3 (List.mem_cons_of_mem _ m)).trans (a3 m)⟩) fun m => ?_
      rcases List.mem_append.mp m with m | m
      · exact nb m
      · rw [fresh b m] at hb
        cases hb
    · rcases List.mem_append.mp hb with hb | hb
      · exact fresh b hb
      · rw [List.mem_singleton.mp hb]
        exact c1
    · rw [List.map_append]
      exact upd_same
  · have hn : i = s.items.length := by omega
    subst hn
    rw [List.drop_length] at go
    unfold gGo at go
    cases go
    refine .inl ⟨sw.stops _ _ H' w b (gk _), ?_⟩
    have lenA : A.A.length = S1.length := w1.len
    have ex : Ext A H1 A H' := ⟨rfl, ⟨[], by simp⟩, fun _ h => .inl h, keep⟩
    have ok : CellOk K ((A.pushs as).prot D) H' D (nlsC S1.length fin.length) := by
      refine ⟨as.map V.ref, hx, ?_⟩
      rw [← hal]
      refine nls_ok as fun j a ha => ?_
      show (A.A ++ as)[S1.length + j]? = some a
      rw [List.getElem?_append_right (by omega), show S1.length + j - A.A.length = j by omega]
      exact ha
    have lt : (nlsC S1.length fin.length).lt (S1 ++ fin).length = true := by
      show ((List.range fin.length).map fun j => Itm.c (S1.length + j)).all (Itm.lt (S1 ++ fin).length) = true
      rw [List.all_eq_true]
      intro x hx
      obtain ⟨j, hj, rfl⟩ := List.mem_map.mp hx
      have := List.mem_range.mp hj
      simp [Itm.lt]
      omega
    have w6 := Wf.protOut (A := A.pushs as) w ok (show D ∉ A.P from hDP) lt
    have efr : ∀ b ∈ as ++ [D], H b = none := fun b hb => by
      rcases List.mem_append.mp hb with hb | hb
      · exact e1.free w1 (fresh b hb)
      · rw [List.mem_singleton.mp hb]
        exact e1.free w1 hD
    have p1' : Post K A H Q (.ok (.g (fin ++ [nlsC S1.length fin.length]) fin.length) S1) := p1
    refine p1' (as ++ [D]) D H' (e1.trans ex) ?_ efr (by simp [hal]) ?_
    · rw [← pushs_push, ← List.append_assoc]
      exact w6
    · rw [List.getElem?_append_right (by omega), show fin.length - as.length = 0 by omega]
      rfl
/-! ### a comprehension over a list of lists -/
open Classical in
noncomputable def nGo (i : Nat) (e : Sx) (ρ : Envi) (S : Sto) : List Itm → List PyData → Option (List PyData)
  | [], acc => some acc
  | x :: xs, acc => match e (ρ.set i (some x.val)) S with
    | .ok v S2 => if S2 = S then match v.th with
        | .d y => nGo i e ρ S xs (acc ++ [y])
        | _ => none
      else none
    | _ => none
noncomputable def evCompN (f : Sx) (i : Nat) (e : Sx) (own : List Nat) : Sx := fun ρ S => (f ρ S).bind fun v S1 => match nlsOf S1 v.th with
  | some q => if q.2.length ≤ sizeLine then match nGo i e (wipeE ρ own) S1 q.2 [] with
      | some ys => .ok (.f (.lst ys)) S1
      | none => .no
    else .no
  | none => .no
def PostN (K : Frg) (A : Wd) (H : Hp) (R : It → Hp → Prop) : Res Val → Prop
  | .ok v S => ∀ x H1, Ext A H A H1 → Wf K A S H1 → Rv K A H1 x v.th → ∃ a xs, x = .ref a ∧ H1 a = some (.lst xs) ∧ R (Itl K a) H1
  | _ => False
def tNl (K : Frg) (f : Sx) : TI := fun σ H R => At K σ H fun A ρ S => PostN K A H R (f ρ S)
theorem iNl {tg l : Expr} {f : Sx} (hl : PE X l (tE X.K f)) : PI X tg l (tNl X.K f) := ⟨fun pins s σ H R I h => by
  obtain ⟨A, S, ρ, w, env, p⟩ := h
  refine thn (hl.run pins s σ H (fun x H1 => ∃ a xs, x = .ref a ∧ H1 a = some (.lst xs) ∧ R (Itl X.K a) H1) I ⟨A, S, ρ, w, env, ?_⟩) fun v s1 ⟨x, H1, I1, r1, a, xs, ex, h1, q⟩ => ?_
  · show Post X.K A H _ (f ρ S)
    cases hf : f ρ S with
    | no => rw [hf] at p; exact p.elim
    | exc e S1 => rw [hf] at p; exact p.elim
    | ok v S1 =>
      rw [hf] at p
      exact Post.th fun x H1 e w r => p x H1 e w r
  · subst ex
    cases r1
    obtain ⟨its, rv, pl, hz⟩ := I1.list (show SqL X.K H1 a xs from .inl (.inl h1))
    refine wpAny_pyIter_list pl.isList ⟨s1.heap.objs.size, [s1.heap.objs.size], _, _, H1, rfl, ?_, turn_list a _, ⟨_, Heap.get?_push_size _ rfl, rfl, rfl⟩, one_fp I1, q⟩
    exact I1.kept (t' := s1.toks) fun b o e => Heap.get?_push_of_some _ e⟩
theorem itm_val {x : V} {d : Itm} (h : ItmOk K A H x d) : Rv K A H x d.val := by
  cases d with
  | d y => exact h
  | c n => exact h
theorem sql_one {a : Addr} {xs ys : List V} (h : H a = some (.lst xs)) (hK : SqL K H a ys → ys = xs) (q : SqL K H a ys) : ys = xs := hK q
theorem comp_okN {f : Sx} {i : Nat} {e : Sx} {own : List Nat} (hsub : i ∈ own) (h : tE K (evCompN f i e own) σ H Q) : tLc (tNl K f) (gName i) (tB K bYes) (tE K e) own σ H Q := by
  obtain ⟨A, S, ρ, w, env, p⟩ := h
  refine ⟨A, S, ρ, w, env, ?_⟩
  dsimp only [evCompN] at p
  show PostN K A H _ (f ρ S)
  cases hf : f ρ S with
  | no => rw [hf] at p; exact p
  | exc e S1 => rw [hf] at p; exact p
  | ok v S1 =>
  rw [hf] at p
  have p : Post K A H Q (match nlsOf S1 v.th with
    | some q => if q.2.length ≤ sizeLine then match nGo i e (wipeE ρ own) S1 q.2 [] with
        | some ys => .ok (.f (.lst ys)) S1
        | none => .no
      else .no
    | none => .no) := p
  intro x H1 e1 w1 r1
  split at p
  case h_2 => exact p.elim
  rename_i q hq
  obtain ⟨n, is⟩ := q
  dsimp only at p hq
  split at p
  case isFalse => exact p.elim
  rename_i hlen
  split at p
  case h_2 => exact p.elim
  rename_i fin hfin
  obtain ⟨a, ys, ha, rfl, h1, _, hS⟩ := nlsOf_ok w1 r1 hq
  refine ⟨a, ys, rfl, h1, fun D hD => ?_⟩
  have hDP : D ∉ A.P := fun m => w1.off hD (Wd.mem.mpr (.inl m))
  obtain ⟨wD, kD⟩ := w1.protNew (u := .lst []) trivial hD
  have envD := ((env.mono e1).wipe own).kx kD
  have at_ : ∀ {H' : Hp}, Wf K (A.prot D) S1 H' → ∃ zs, H' a = some (.lst zs) ∧ Paired (ItmOk K (A.prot D) H') zs is := fun w => w.ok n a _ ha hS
  refine ⟨fun j m H' => j + m = is.length ∧ ∃ acc xs, acc.length ≤ j ∧ Wf K (A.prot D) S1 H' ∧ Ext A H1 A H' ∧ H' D = some (.lst xs) ∧ RpL K (A.prot D).V H' xs acc ∧ REnv K (A.prot D) H' (wipeE ρ own) (wipe σ own) ∧ nGo i e (wipeE ρ own) S1 (is.drop j) acc = some fin,
    ⟨is.length, by simp, [], [], Nat.le_refl _, wD, .laid hD, upd_same, .nil, envD, hfin⟩, ?_⟩
  rintro j m H' ⟨hjm, acc, xs, hacc, w, ex, hx, rx, env, go⟩
  have nDA : D ∉ (A.prot D).A := (w.pr D (List.mem_cons_self)).1
  have toA : ∀ {H3 H4 : Hp}, Ext (A.prot D) H3 (A.prot D) H4 → Ext A H3 A H4 := fun q => ⟨rfl, ⟨[], by simp⟩, fun _ h => .inl h, fun b o h n => let ⟨o', a1, a2, a3⟩ := q.keep b o h n; ⟨o', a1, a2, fun m => a3 (List.mem_cons_of_mem _ m)⟩⟩
  obtain ⟨zs, hz, pz⟩ := at_ w
  by_cases hj : j < is.length
  · rw [List.drop_eq_getElem_cons hj] at go
    obtain ⟨z0, hz0, _⟩ := paired_getI pz (List.getElem?_eq_getElem hj)
    refine .inr ⟨⟨zs, z0, .inl (.inl hz), hz0⟩, fun H' => ∃ acc xs, acc.length ≤ j + 1 ∧ Wf K (A.prot D) S1 H' ∧ Ext A H1 A H' ∧ H' D = some (.lst xs) ∧ RpL K (A.prot D).V H' xs acc ∧ REnv K (A.prot D) H' (wipeE ρ own) (wipe σ own) ∧ nGo i e (wipeE ρ own) S1 (is.drop (j + 1)) acc = some fin, fun H' h => ⟨m - 1, by omega, by omega, h⟩, fun x H'' y => ?_⟩
    obtain ⟨rfl, y⟩ := y
    have hxz := y zs (.inl (.inl hz))
    obtain ⟨d, hd, okd⟩ := paired_getX pz hxz
    rw [List.getElem?_eq_getElem hj] at hd
    cases hd
    have rv := itm_val okd
    unfold nGo at go
    split at go
    case h_2 => cases go
    rename_i v2 S2 he
    split at go
    case isFalse => cases go
    rename_i hS2
    subst hS2
    split at go
    case h_2 => cases go
    rename_i yd hy
    show _ ∧ _
    refine ⟨wipe_back (by rw [List.length_set]) fun k hk => ?_, A.prot D, S2, (wipeE ρ own).set i (some is[j].val), w, env.set rv, ?_⟩
    · rw [List.getElem?_set_ne (fun z => hk (by rw [← z]; exact hsub))]
    show PostB K _ _ _ (.ok true S2)
    intro H3 e3 w3
    rw [if_pos rfl]
    refine ⟨A.prot D, S2, (wipeE ρ own).set i (some is[j].val), w3, (env.set rv).mono e3, ?_⟩
    show Post K _ _ _ (e ((wipeE ρ own).set i (some is[j].val)) S2)
    rw [he]
    refine Post.th fun y4 H4 e4 w4 r4 => ?_
    rw [hy] at r4
    have e24 := e3.trans e4
    have hx4 := e24.keepL hx nDA
    obtain ⟨w5, k5⟩ := w4.protUpd (p := D) (u := .lst (xs ++ [y4])) trivial (List.mem_cons_self)
    have r4 : Rp K (A.prot D).V H4 y4 yd := r4
    refine ⟨xs, hx4, ?_, acc ++ [yd], xs ++ [y4], by rw [List.length_append, List.length_singleton]; omega, w5, ?_, upd_same, ((rx.mono e24.kp).append (.cons r4 .nil)).mono k5.2, (env.mono e24).kx k5, go⟩
    · rw [rx.length]; omega
    · refine ⟨rfl, ⟨[], by simp⟩, fun _ h => .inl h, fun c o hc nc => ?_⟩
      rw [upd_ne (fun z => by rw [z, hD] at hc; cases hc)]
      exact (ex.trans (toA e24)).keep c o hc nc
  · have hn : j = is.length := by omega
    subst hn
    rw [List.drop_length] at go
    unfold nGo at go
    cases go
    exact .inl ⟨⟨zs, .inl (.inl hz), by rw [Paired.length pz]; exact Nat.le_refl _⟩, p D H' (e1.trans ex) (w.protOut (k := .lst _) ⟨_, hx, rx⟩ hDP) (e1.free w1 hD)⟩
/-! ### the rules -/
section
variable {elt tg iter : Expr} {ifs : List Expr} {scope : Scope} {own : List (Str × Nat)} {src : SI} {bd : Bnd} {t : SB} {e f g : Sx}
theorem pe_if2 {c : Envi → Bool} {ex : Expr} (h1 : PE X ex (tE X.K f)) (h2 : PE X ex (tE X.K g)) : PE X ex (tE X.K (evIf2 c f g)) := ⟨fun pins s σ H Q I h => (tE_if2 h).elim (h1.run pins s σ H Q I) (h2.run pins s σ H Q I)⟩
theorem sCell_if2 {i : Nat} {c : Envi → Bool} {st : Stmt} (h1 : PS X st (tS X.K (sCell i f))) (h2 : PS X st (tS X.K (sCell i g))) : PS X st (tS X.K (sCell i (evIf2 c f g))) := ⟨fun pins s σ H D I h => by
  obtain ⟨A, S, ρ, w, env, p⟩ := h
  unfold sCell evIf2 at p
  split at p
  · exact h1.run pins s σ H D I ⟨A, S, ρ, w, env, p⟩
  · exact h2.run pins s σ H D I ⟨A, S, ρ, w, env, p⟩⟩
theorem eCompG (hc : X.calm = true) (hN : X.N.Nodup) (hi : PI X tg iter (tI X.K src)) (ok : BlkOk X.N X.env.scope scope own) (hsub : ∀ j ∈ bd.sl, j ∈ own.map (·.2))
    (hg : ∀ (s : Shared) (H : Hp) (C : Addr) (cl : List (Str × Addr)) (fp : List Addr), PG (X.blk s H scope (compEnvC scope cl C X.env) fp) tg (tG X.K bd))
    (he : ∀ (s : Shared) (H : Hp) (C : Addr) (cl : List (Str × Addr)) (fp : List Addr), PE (X.blk s H scope (compEnvC scope cl C X.env) fp) elt (tE X.K e)) (hs : ∀ x, foldedSetIterable iter X.env x = pure x := by intro _; rfl) :
    PE X (.ListComp elt [⟨tg, iter, [], 0⟩] scope pos) (tE X.K (evCompG src bd e (own.map (·.2)))) := PEi (pe_lc hc hN hi ok hg (fun _ _ _ _ _ => tsN) he hs) fun σ H Q => comp_okG hsub
theorem sCellLcG {y : Str} {py spos : Pos} (i : Nat) (hc : X.calm = true) (hN : X.N.Nodup) (hy : X.N[i]? = some y) (hyl : X.env.scope.names.lookup y = some .local) (hsw : swapsWith (.ListComp elt [⟨tg, iter, [], 0⟩] scope pos) (some (.Name y py)) spos.line X.env = pure true)
    (hi : PI X tg iter (tI X.K src)) (ok : BlkOk X.N X.env.scope scope own) (hsub : ∀ j ∈ bd.sl, j ∈ own.map (·.2))
    (hg : ∀ (s : Shared) (H : Hp) (C : Addr) (cl : List (Str × Addr)) (fp : List Addr), PG (X.blk s H scope (compEnvC scope cl C X.env) fp) tg (tG X.K bd))
    (he : ∀ (s : Shared) (H : Hp) (C : Addr) (cl : List (Str × Addr)) (fp : List Addr), PE (X.blk s H scope (compEnvC scope cl C X.env) fp) elt (tE X.K e)) (hs : ∀ x, foldedSetIterable iter X.env x = pure x := by intro _; rfl) :
    PS X (.Assign [.Name y py] (.ListComp elt [⟨tg, iter, [], 0⟩] scope pos) spos) (tS X.K (sCell i (evCompG src bd e (own.map (·.2))))) := PSi (ps_setLc hc hN hy hyl hsw hi ok hg (fun _ _ _ _ _ => tsN) he hs) fun D σ H h => comp_okG hsub (cell_ok h)
theorem eCompN {i : Nat} (hc : X.calm = true) (hN : X.N.Nodup) (hi : PE X iter (tE X.K f)) (ok : BlkOk X.N X.env.scope scope own) (hsub : i ∈ own.map (·.2))
    (hg : ∀ (s : Shared) (H : Hp) (C : Addr) (cl : List (Str × Addr)) (fp : List Addr), PG (X.blk s H scope (compEnvC scope cl C X.env) fp) tg (gName i))
    (he : ∀ (s : Shared) (H : Hp) (C : Addr) (cl : List (Str × Addr)) (fp : List Addr), PE (X.blk s H scope (compEnvC scope cl C X.env) fp) elt (tE X.K e)) (hs : ∀ x, foldedSetIterable iter X.env x = pure x := by intro _; rfl) :
    PE X (.ListComp elt [⟨tg, iter, [], 0⟩] scope pos) (tE X.K (evCompN f i e (own.map (·.2)))) := PEi (pe_lc hc hN (iNl hi) ok hg (fun _ _ _ _ _ => tsN) he hs) fun σ H Q => comp_okN hsub
end
/-! ### x[i], x[j] = a, b -/
def sSwp (o1 k1 o2 k2 : Sx) (f : SA) : Ss := fun ρ S => (f ρ S).bind fun vs S1 => match vs with
  | [x1, x2] => (o1 ρ S1).bind fun v1 S2 => (k1 ρ S2).bind fun i1 S3 => match gPut v1.th i1.th x1 S3 with
    | some S4 => (o2 ρ S4).bind fun v2 S5 => (k2 ρ S5).bind fun i2 S6 => match gPut v2.th i2.th x2 S6 with
      | some S7 => .ok (.nx ρ) S7
      | none => .no
    | none => .no
  | _ => .no
theorem sSwpR {e1 e2 i1 i2 a1 a2 : Expr} {o1 k1 o2 k2 : Sx} {f : SA} {p1 p2 pt pt2 : Pos} {kt kt2} (hu : X.A.units + 100 < cLine) (hc : X.calm = true) (ha : PA X [a1, a2] (tAr X.K f)) (ho1 : PE X e1 (tE X.K o1)) (hk1 : PE X i1 (tE X.K k1)) (ho2 : PE X e2 (tE X.K o2)) (hk2 : PE X i2 (tE X.K k2))
    (hx1 : ∀ v, assign (.Subscript e1 i1 p1) X.env v = (do
      let ov ← holding [v] (eval e1 X.env)
      let iv ← holding [v, ov] (eval i1 X.env)
      standAt p1
      holding [v, ov, iv] (setItem ov iv v)
      release [v, ov, iv] []) := by intro _; rfl)
    (hx2 : ∀ v, assign (.Subscript e2 i2 p2) X.env v = (do
      let ov ← holding [v] (eval e2 X.env)
      let iv ← holding [v, ov] (eval i2 X.env)
      standAt p2
      holding [v, ov, iv] (setItem ov iv v)
      release [v, ov, iv] []) := by intro _; rfl)
    (hn : (assignEach [.Subscript e1 i1 p1, .Subscript e2 i2 p2] X.env).length = 2 := by rfl) (hst : (assignEach [.Subscript e1 i1 p1, .Subscript e2 i2 p2] X.env).findIdx? (·.1) = none := by rfl)
    (hs1 : (assignEach [.Subscript e1 i1 p1, .Subscript e2 i2 p2] X.env).map (·.2) = assign (.Subscript e1 i1 p1) X.env :: (assignEach [.Subscript e2 i2 p2] X.env).map (·.2) := by rfl)
    (hs2 : (assignEach [.Subscript e2 i2 p2] X.env).map (·.2) = assign (.Subscript e2 i2 p2) X.env :: (assignEach [] X.env).map (·.2) := by rfl)
    (hs : swapsWithSole [.Tuple [.Subscript e1 i1 p1, .Subscript e2 i2 p2] kt pt] (.Tuple [a1, a2] kt2 pt2) pos.line X.env = pure false := by rfl) (hw : swappedStores [.Tuple [.Subscript e1 i1 p1, .Subscript e2 i2 p2] kt pt] (.Tuple [a1, a2] kt2 pt2) X.env = pure none := by rfl)
    (h1 : (assignEach [.Tuple [.Subscript e1 i1 p1, .Subscript e2 i2 p2] kt pt] X.env).map (·.2) = [assign (.Tuple [.Subscript e1 i1 p1, .Subscript e2 i2 p2] kt pt) X.env] := by rfl) :
    PS X (.Assign [.Tuple [.Subscript e1 i1 p1, .Subscript e2 i2 p2] kt pt] (.Tuple [a1, a2] kt2 pt2) pos) (tS X.K (sSwp o1 k1 o2 k2 f)) :=
  PSi (ps_asg (pe_tup ha) (pg_tup hc (pgs_cons (pg_sub ho1 hk1 (set_any (by omega)) hx1) (pgs_cons (pg_sub ho2 hk2 (set_any (by omega)) hx2) pgs_nil hs2) hs1) hn hst) hs hw h1) fun D σ H ⟨A, S, ρ, w, env, p⟩ =>
    ⟨A, S, ρ, w, env, PostA.seq (P := PostS X.K A H D) p (fun h => h) (fun _ _ h => h) fun vs S1 xs H1 ee1 w1 r1 p1 => by
      split at p1
      case h_2 => exact p1.elim
      rename_i x1 x2
      cases r1 with | cons q1 r1 =>
      cases r1 with | cons q2 r1 =>
      cases r1
      rename_i xv1 xv2
      refine ⟨line1000 (show 2 ≤ 1000 by decide), fun q hq => ⟨q, [xv1, xv2], rfl, .inl (.inl upd_same), rfl, xv1, [xv2], rfl, ?_⟩⟩
      have eL : Ext A H1 A (L2.upd H1 q (.tup [xv1, xv2])) := .laid hq
      have w2 := w1.laid (o := .tup [xv1, xv2]) hq
      have env2 := (env.mono ee1).mono eL
      have p2 := PostS.shift (PostS.shift p1 ee1 w1) eL w2
      refine at_seq (P := PostS X.K A (L2.upd H1 q (.tup [xv1, xv2])) D) w2 env2 p2 (fun h => h) (fun _ _ h => h) fun v1 S2 ov1 H2 e2 w3 rv1 p3 => ?_
      refine at_seq (P := PostS X.K A (L2.upd H1 q (.tup [xv1, xv2])) D) w3 (env2.mono e2) p3 (fun h => h) (fun _ _ h => h) fun i1 S3 iv1 H3 e3 w4 ri1 p4 => ?_
      split at p4
      case h_2 => exact p4.elim
      rename_i S4 h4
      refine ⟨A, S3, v1.th, i1.th, x1, S4, w4, rv1.mono e3, ri1, (q1.mono eL).mono (e2.trans e3), h4, fun H4 e4 w5 => ?_⟩
      have e14 := (e2.trans e3).trans e4
      refine ⟨xv2, [], rfl, ?_⟩
      refine at_seq (P := PostS X.K A (L2.upd H1 q (.tup [xv1, xv2])) D) w5 (env2.mono e14) p4 (fun h => h) (fun _ _ h => h) fun v2 S5 ov2 H5 e5 w6 rv2 p5 => ?_
      refine at_seq (P := PostS X.K A (L2.upd H1 q (.tup [xv1, xv2])) D) w6 ((env2.mono e14).mono e5) p5 (fun h => h) (fun _ _ h => h) fun i2 S6 iv2 H6 e6 w7 ri2 p6 => ?_
      split at p6
      case h_2 => exact p6.elim
      rename_i S7 h7
      refine ⟨A, S6, v2.th, i2.th, x2, S7, w7, rv2.mono e6, ri2, ((q2.mono eL).mono e14).mono (e5.trans e6), h7, fun H7 e7 w8 => ⟨rfl, ?_⟩⟩
      have e17 := (e14.trans (e5.trans e6)).trans e7
      exact p6 A σ H7 e17 w8 (env2.mono e17)⟩
end
end MV
set_option Elab.async false
set_option linter.all false
set_option maxRecDepth 100000
/-! x.extend(t), t a tuple. -/
namespace PySem
open PySem.AutoSeq1 in
theorem meets_extendT (l b : Addr) (xs ys : Array Value) (n m : Nat) (dd : Option Addr) (sl : Array (Option Value)) (h0 : ¬(!xs.isEmpty && Builtin.List.listTooLong (xs.size + ys.size)) = true) (h1 : xs.size ≤ sizeLine) (h2 : xs.size + ys.size ≤ sizeLine + 1) :
    Meets (Builtin.«list.extend» ⟨[.ref l, .ref b], []⟩) (fun _ R s => s.heap.get? l = some { cls := .type "list", data := .seq xs n } ∧
      s.heap.get? b = some { cls := .type "tuple", dict := dd, data := .seq ys m, slots := sl } ∧ R (.ok (.ret Value.none)) { s with heap := s.heap.update l (Obj.mapSeq fun z => z ++ ys) }) :=
  .of_wp fun prog w A R s h => by
    obtain ⟨hp, g, d, tk, os⟩ := s
    obtain ⟨q1, q2, h⟩ := h
    have u1 := idx_int
    have u2 := sub_tuple_tuple
    have u3 := sub_list_list
    have u4 := sub_tuple_list
    have u5 := sub_list_tuple
    have hz : (xs ++ ys).size ≤ sizeLine + 1 := by rw [Array.size_append]; exact h2
    wp_walk using (wpAny_updateSeq q1 rfl (hz := h1) (_hz' := hz)), wpAny_loadPart' q1, wpAny_loadPart' q2
    exact ⟨_, rfl, h⟩
end PySem
namespace MV
open PySem PySem.Spec PyProof.Rows L2
section
variable {X : Cx}
def gExtendT (v : Val) (vs : List Val) (S : Sto) : Res Val := match cellL S v, vs with
  | some (n, ds), [.d (.tuple es)] => if ds.length + es.length ≤ sizeLine then .ok (.d .none) (S.set n (.lst (ds ++ es))) else .no
  | _, _ => .no
theorem mExtendT : MRul X "list.extend" gExtendT := by
  intro pins s σ A S H x xs u us v vs Q I wf rv rvs ru rus p
  unfold gExtendT at p
  split at p
  · rename_i n ds es h1
    split at p
    · rename_i hl
      obtain ⟨a, ys, ha, ma, rfl, h2, h3⟩ := cellL_ok wf rv h1
      cases rvs with | cons r1 r2 =>
      cases r2
      cases r1 with | tup ht hr =>
      obtain ⟨its2, r2, ⟨o, ho, hc, m, hd⟩, z2⟩ := I.tuple ht.seq
      cases ru
      obtain ⟨w, rfl, rw'⟩ := rus.one
      cases rw'
      obtain ⟨z, its, n0, r, hl1, e⟩ := I.lstM h2
      have l1 := h3.length
      have l2 := hr.length
      have l3 := r2.length
      have hsz : its.toArray.size + its2.toArray.size ≤ sizeLine := by rw [List.size_toArray, List.size_toArray]; omega
      obtain ⟨oc, od, odt, osl⟩ := o
      dsimp only at hc hd
      subst hc hd
      refine call_meets F.slot_list_extend ⟨_, e, rfl⟩ F.entry_list_extend (F.args_list_extend_2 _ _)
        (meets_extendT a _ its.toArray its2.toArray n0 m od osl (by rw [notLongL hsz, Bool.and_false]; exact Bool.false_ne_true) (by rw [List.size_toArray]; omega) (by omega)) ⟨e, ho, ?_⟩
      have I2 := I.lset (t' := s.toks) (its' := its ++ its2) (f := fun z => z ++ its2.toArray) h2 e (by simp) (r.append r2) (by rw [List.length_append]; omega)
      exact ⟨.non, _, I2, rfl, p.put wf ha (h3.append hr) .non⟩
    · exact p.elim
  · exact p.elim
/-- a list taken apart -/
def bTupL (bs : List Bnd) : Bnd := ⟨slL bs, fun x ρ => match x with
  | .list ds => goL bs ds ρ
  | _ => none⟩
theorem gTL {pos : Pos} {es : List Expr} {k : Nat} {bs : List Bnd} {n : Nat} (hc : X.calm = true) (h : PGs X es (tGs X.K bs)) (hnb : bs.length = n := by rfl)
    (hn : (assignEach es X.env).length = n := by rfl) (hst : (assignEach es X.env).findIdx? (·.1) = none := by rfl) : PG X (.Tuple es k pos) (tG X.K (bTupL bs)) :=
  ⟨fun pins s σ H v u Q I r hw => (pg_lst hc h hn hst).run pins s σ H v u Q I r (by
    obtain ⟨A, ρ, x, ρ', env, rp, e, q⟩ := hw
    cases rp with
    | lst l t =>
      rename_i a xs ds
      exact ⟨a, xs, rfl, l.seq, by rw [t.length, goL_len e, hnb], A, ρ, ds, ρ', env, t, e, q⟩
    | _ => cases e)⟩
end
end MV
set_option Elab.async false
set_option linter.all false
set_option maxRecDepth 100000
/-! Objects of the program's own classes: made, read, stored into, their methods called; arguments of which the cells just made stay. -/
namespace MV
open PySem PySem.Spec PyProof.Rows L2
section
variable {X : Cx} {K : Frg} {a b : Expr} {fa fb : Sx} {pos : Pos} {A A' A1 A2 W W' : Wd} {H H' H1 H2 : Hp} {S S' S1 S2 : Sto} {Q : VK} {ρ : Envi} {σ : L2.St} {D : Ends}
/-! ### arguments: cells just made are kept as cells -/
def PostP (K : Frg) (A : Wd) (H : Hp) (Q : List V → Hp → Prop) : Res (List Val) → Prop
  | .ok vs S => ∀ A' xs H', Ext A H A' H' → Wf K A' S H' → RvL K A' H' xs vs → Q xs H'
  | .exc _ _ => False
  | .no => False
def tAP (K : Frg) (f : SA) : TA := fun σ H Q => At K σ H fun A ρ S => PostP K A H Q (f ρ S)
def pCons (f : Sx) (g : SA) : SA := fun ρ S => (f ρ S).bind fun v S1 => match v with
  | .f k => (g ρ (S1 ++ [k])).bind fun vs S2 => .ok (.c S1.length :: vs) S2
  | .g cs i => (g ρ (S1 ++ cs)).bind fun vs S2 => .ok (.c (S1.length + i) :: vs) S2
  | v => (g ρ S1).bind fun vs S2 => .ok (v :: vs) S2
theorem pN : PA X [] (tAP X.K aNil) := PAi pa_nil fun σ H Q ⟨A, S, ρ, w, env, p⟩ => p A [] H .refl w .nil
theorem p_tail {g : SA} {v : Val} {x : V} {Q : List V → Hp → Prop} (e1 : Ext A H A1 H1) (w1 : Wf K A1 S1 H1) (env : REnv K A H ρ σ) (rv : Rv K A1 H1 x v) (p : PostP K A H Q ((g ρ S1).bind fun vs S2 => .ok (v :: vs) S2)) :
    tAP K g σ H1 fun xs H2 => Q (x :: xs) H2 := by
  refine ⟨A1, S1, ρ, w1, env.mono e1, ?_⟩
  show PostP K A1 H1 _ (g ρ S1)
  cases h : g ρ S1 with
  | no => rw [h] at p; exact p
  | exc e S => rw [h] at p; exact p
  | ok vs S2 =>
    rw [h] at p
    exact fun A2 xs H2 e2 w2 r2 => p A2 (x :: xs) H2 (e1.trans e2) w2 (.cons (rv.mono e2) r2)
theorem pC {e : Expr} {es : List Expr} {f : Sx} {g : SA} (he : PE X e (tE X.K f)) (hr : PA X es (tAP X.K g)) (hs : starEach (e :: es) X.env = (false, eval e X.env) :: starEach es X.env := by rfl) : PA X (e :: es) (tAP X.K (pCons f g)) :=
  PAi (pa_cons he hr hs) fun σ H Q ⟨A, S, ρ, w, env, p⟩ => ⟨A, S, ρ, w, env, by
    have p : PostP X.K A H Q (pCons f g ρ S) := p
    unfold pCons at p
    show Post X.K A H _ (f ρ S)
    cases h : f ρ S with
    | no => rw [h] at p; exact p
    | exc e S => rw [h] at p; exact p
    | ok v S1 =>
      rw [h] at p
      cases v with
      | d x => exact fun v H1 e1 w1 r1 => p_tail e1 w1 env (v := .d x) r1 p
      | c n => exact fun a H1 e1 w1 r1 => p_tail e1 w1 env (v := .c n) ⟨a, r1, rfl⟩ p
      | z ds => exact fun v H1 e1 w1 r1 => p_tail e1 w1 env (v := .z ds) r1 p
      | x => exact fun a H1 e1 w1 => p_tail e1 w1 env (v := .x) ⟨a, rfl⟩ p
      | t its => exact fun v H1 e1 w1 r1 => p_tail e1 w1 env (v := .t its) r1 p
      | o nm => exact fun a H1 e1 w1 r1 => p_tail e1 w1 env (v := .o nm) ⟨a, r1, rfl⟩ p
      | f k =>
        intro a H1 e1 w1 hn
        have l := w1.drop1.1.len
        refine p_tail (A1 := A.push a) (e1.grow hn) w1 env (v := .c S1.length) ⟨a, ?_, rfl⟩ p
        show (A.A ++ [a])[S1.length]? = some a
        rw [← l]; simp
      | g cs i =>
        intro as a H1 e1 w1 hn hl hi
        have l := w1.len
        have l2 : A.A.length = S1.length := by
          simp [Wd.pushs] at l
          omega
        refine p_tail (A1 := A.pushs as) (e1.grows (K := X.K) hn) w1 env (v := .c (S1.length + i)) ⟨a, ?_, rfl⟩ p
        show (A.A ++ as)[S1.length + i]? = some a
        rw [List.getElem?_append_right (by omega), l2, Nat.add_sub_cancel_left]; exact hi⟩
/-- what goes out: cells made beyond n go, but what is handed on -/
theorem out_ok {v : Val} (w : Wf K A S H) (p : Post K A H Q (out S.length S1 v)) : PostR K A S1 H Q v := by
  have hsl : ∀ {A' H'}, Ext A H A' H' → Wf K A' S1 H' → Wf K A (S1.take S.length) H' := fun e w1 => by
    rw [← w.len]; exact w1.less e
  have lessV : ∀ {A' : Wd} {H' : Hp}, Ext A H A' H' → ∀ b, b ∈ A.V → b ∈ A'.V := fun {A' H'} e b m => by
    rw [Wd.mem] at m ⊢
    obtain ⟨B, h1⟩ := e.pre
    rw [e.pr, h1]
    exact m.imp id fun m => List.mem_append_left _ m
  have lessRp : ∀ {A' : Wd} {H' : Hp} {v : V} {d : PyData}, Ext A H A' H' → Rp K A'.V H' v d → Rp K A.V H' v d := fun {A' H' v d} e r => r.mono (kp_less (lessV e))
  cases v with
  | d x => exact fun A' v H' e w1 r => p v H' (Ext.less (B := []) e) (hsl e w1) (lessRp e r)
  | z ds =>
    intro A' v H' e w1 r
    obtain ⟨a, ys, rfl, h1, t1⟩ := r
    exact p _ H' (Ext.less (B := []) e) (hsl e w1) ⟨a, ys, rfl, h1.imp (fun q => ⟨q.1, fun m => q.2 (lessV e a m)⟩) id, t1.mono (kp_less (lessV e))⟩
  | x => exact fun A' v H' e w1 => p v H' (Ext.less (B := []) e) (hsl e w1)
  | t its => exact out_t w p hsl lessV
  | o nm => exact fun A' v H' e w1 r => p v H' (Ext.less (B := []) e) (hsl e w1) r
  | g cs i =>
    intro A' as a H' e w1 hn hl hi
    obtain ⟨B, rfl, hB⟩ := e.fresh (by have := w1.nd; exact (List.nodup_append.mp this).1)
    have p : Post K A H Q (.ok (.g (S1.drop S.length ++ cs) (S1.length - S.length + i)) (S1.take S.length)) := p
    have l1 := w.len
    have l2 := w1.len
    simp [Wd.pushs] at l2
    refine p (B ++ as) a H' (Ext.less (B := []) e) ?_ (fun b hb => ?_) (by simp; omega) ?_
    · rw [← List.append_assoc, List.take_append_drop]
      have e2 : (A.pushs B).pushs as = A.pushs (B ++ as) := by simp [Wd.pushs]
      rw [← e2]; exact w1
    · rcases List.mem_append.mp hb with m | m
      · exact hB b m
      · exact hn b m
    · rw [List.getElem?_append_right (by omega)]
      rw [show S1.length - S.length + i - B.length = i by omega]; exact hi
  | f k =>
    intro A' a H' e w1 hn
    have p : Post K A H Q (if k.lt S.length = true then .ok (.f k) (S1.take S.length) else .ok (.g (S1.drop S.length ++ [k]) (S1.length - S.length)) (S1.take S.length)) := p
    obtain ⟨w2, c, na⟩ := w1.drop1
    have e2 : Ext A H (A'.push a) H' := by
      refine ⟨e.pr, ?_, fun b m => ?_, e.keep⟩
      · obtain ⟨B, h1⟩ := e.pre
        exact ⟨B ++ [a], by show A'.A ++ [a] = _; rw [h1, List.append_assoc]⟩
      · rcases List.mem_append.mp m with m | m
        · exact e.new b m
        · rw [List.mem_singleton.mp m]; exact .inr hn
    by_cases hk : k.lt S.length = true
    · rw [if_pos hk] at p
      have hp := w1.pick (j := A'.A.length) (a := a) (k := k) e2 (by obtain ⟨B, h1⟩ := e.pre; rw [h1]; simp) (by simp [Wd.push]) (by rw [w2.len]; simp) (by rw [w.len]; exact hk)
      refine p a H' (Ext.less (B := []) e) ?_ hn
      have q := hp.1
      have hle : A.A.length ≤ S1.length := by rw [← w2.len]; obtain ⟨B, h1⟩ := e.pre; rw [h1]; simp
      rw [List.take_append_of_le_length hle, w.len] at q
      exact q
    · rw [if_neg hk] at p
      obtain ⟨B, rfl, hB⟩ := e.fresh w2.nd
      have l1 := w.len
      have l2 := w2.len
      simp [Wd.pushs] at l2
      refine p (B ++ [a]) a H' (Ext.less (B := []) e) ?_ (fun b hb => ?_) (by simp; omega) ?_
      · rw [← List.append_assoc, List.take_append_drop]
        have e3 : (A.pushs B).push a = A.pushs (B ++ [a]) := by simp [Wd.pushs, Wd.push]
        rw [← e3]; exact w1
      · rcases List.mem_append.mp hb with m | m
        · exact hB b m
        · rw [List.mem_singleton.mp m]; exact hn
      · rw [List.getElem?_append_right (by omega)]
        rw [show S1.length - S.length - B.length = 0 by omega]; rfl
  | c j =>
    intro A' a H' e w1 hj
    have p : Post K A H Q (if j < S.length then .ok (.c j) (S1.take S.length) else match S1[j]? with
      | some k => if k.lt S.length = true then .ok (.f k) (S1.take S.length) else .ok (.g (S1.drop S.length) (j - S.length)) (S1.take S.length)
      | none => .no) := p
    by_cases hjn : j < S.length
    · rw [if_pos hjn] at p
      refine p a H' (Ext.less (B := []) e) (hsl e w1) ?_
      obtain ⟨B, h1⟩ := e.pre
      rw [h1, List.getElem?_append_left (by rw [w.len]; exact hjn)] at hj
      exact hj
    · rw [if_neg hjn] at p
      split at p
      · rename_i k hk
        by_cases hlk : k.lt S.length = true
        · rw [if_pos hlk] at p
          have hp := w1.pick (j := j) (a := a) (k := k) e (by rw [w.len]; omega) hj hk (by rw [w.len]; exact hlk)
          have q := hp.1
          rw [w.len] at q
          exact p a H' (Ext.less (B := []) e) q hp.2
        · rw [if_neg hlk] at p
          obtain ⟨B, rfl, hB⟩ := e.fresh w1.nd
          have l1 := w.len
          have l2 := w1.len
          simp [Wd.pushs] at l2
          refine p B a H' (Ext.less (B := []) e) ?_ hB (by simp; omega) ?_
          · rw [List.take_append_drop]; exact w1
          · have hj : (A.A ++ B)[j]? = some a := hj
            rw [List.getElem?_append_right (by omega), l1] at hj; exact hj
      · exact p.elim
theorem postR_post {v : Val} (h : PostR K A S H Q v) (e1 : Ext A H A1 H1) (w1 : Wf K A1 S1 H1) : Post K A1 H1 Q (.ok v S) := by
  cases v with
  | d x => exact fun v H' e w r => h A1 v H' (e1.trans e) w r
  | c n => exact fun a H' e w r => h A1 a H' (e1.trans e) w r
  | f k => exact fun a H' e w r => h A1 a H' (e1.trans e) w (e1.free w1 r)
  | z ds => exact fun v H' e w r => h A1 v H' (e1.trans e) w r
  | g cs i => exact fun as a H' e w q l j => h A1 as a H' (e1.trans e) w (fun b hb => e1.free w1 (q b hb)) l j
  | x => exact fun a H' e w => h A1 a H' (e1.trans e) w
  | t its => exact fun v H' e w r => h A1 v H' (e1.trans e) w r
  | o nm => exact fun a H' e w r => h A1 a H' (e1.trans e) w r
/-! ### calls with such arguments -/
def evCallP (m : Fn) (f : SA) : Sx := fun ρ S => (f ρ S).bind fun vs S1 => (m vs S1).bind fun v S2 => out S.length S2 v
theorem callP_ok {m : Fn} {f : SA} (h : tE K (evCallP m f) σ H Q) : tCl (spF K m) (tAP K f) σ H Q := by
  obtain ⟨A, S, ρ, w, env, p⟩ := h
  refine ⟨A, S, ρ, w, env, ?_⟩
  have p : Post K A H Q (evCallP m f ρ S) := p
  unfold evCallP at p
  show PostP K A H _ (f ρ S)
  cases hf : f ρ S with
  | no => rw [hf] at p; exact p
  | exc e S => rw [hf] at p; exact p
  | ok vs S1 =>
    rw [hf] at p
    intro A1 xs H1 e1 w1 r1
    refine ⟨A1, S1, vs, w1, r1, ?_⟩
    have p : Post K A H Q ((m vs S1).bind fun v S2 => out S.length S2 v) := p
    cases hm : m vs S1 with
    | no => rw [hm] at p; exact p
    | exc e S => rw [hm] at p; exact p
    | ok v S2 =>
      rw [hm] at p
      exact postR_post (out_ok w p) e1 w1
section
variable {x : Str} {p : Pos} {e : Expr} {es : List Expr} {f : SA} {k j : Nat} {m : Fn}
theorem eCalP (C : Cal X.prog X.w X.K X.mg X.base k x m) (hr : Room j X.A) (gd : X.A.guards = some []) (hk : k ≤ j) (hg : Gl X x) (ha : PA X (e :: es) (tAP X.K f)) (hdb : (x == ("__debug__" : Str)) = false := by decide)
    (he : starEach (e :: es) X.env = (false, eval e X.env) :: starEach es X.env := by rfl) (hpl : (backTo pos (starEach es X.env)).any (·.1) = false := by rfl) : PE X (.Call (.Name x p) (e :: es) [] pos) (tE X.K (evCallP m f)) := by
  obtain ⟨fa, fd, ps, F, hm, hkp, hb⟩ := C.ex
  exact PEi (peG F (hr.mono hk) gd hg hm hkp hb ha hdb he hpl) fun σ H Q => callP_ok
end
/-! ### C(..) -/
/-- the class named nm is made by a def that keeps the mirror m -/
structure Mak (P : Program) (w : World) (K : Frg) (mg : Str → Option Value) (base : Heap) (k : Nat) (nm : Str) (m : Fn) : Prop where
  ex : ∃ (C f : Addr) (fd : FuncData) (ps : List Str), Mk K C f ∧ FnG P w K mg base k f fd ps (spF K m) ∧ mg nm = some (.ref C) ∧ PySem.W.nsIn K mainGlobals nm = some (some (.ref C)) ∧ Binds K fd ps []
def evMake (nm : Str) (m : Fn) (f : SA) : Sx := fun ρ S => (f ρ S).bind fun vs S1 => (m (.c S1.length :: vs) (S1 ++ [.ins nm []])).bind fun v S2 => match v with
  | .d .none => out S.length S2 (.c S1.length)
  | _ => .no
def tMk (C : Addr) (sp : Sp) (t : TA) : TE := fun σ H Q => t σ H fun vs H1 => ∀ x dx, H1 x = none → H1 dx = none → dx ≠ x → sp (.ref x :: vs) (upd (upd H1 dx (.own x)) x (.ins C dx [])) (fun v H2 => v = .non ∧ Q (.ref x) H2) E0
section
variable {x : Str} {p : Pos} {e : Expr} {es : List Expr} {f : SA} {k j : Nat} {m : Fn} {C g : Addr} {fd : FuncData} {ps : List Str} {sp : Sp} {t : TA}
theorem guards_call {A : Around} {v : Value} {us : List Value} : (A.under (.builtin "type.__call__" ⟨v :: us, []⟩)).guards = A.guards := by
  have e : (A.under (.builtin "type.__call__" ⟨v :: us, []⟩)).guards = pushGuards (Code.guards (.builtin "type.__call__" ⟨v :: us, []⟩)) A.guards := rfl
  have g : Code.isGuard (.builtin "type.__call__" ⟨v :: us, []⟩) = false := by
    show guardIds.contains "type.__call__" = false
    decide +kernel
  have e2 : Code.guards (.builtin "type.__call__" ⟨v :: us, []⟩) = [] := by
    unfold Code.guards
    rw [g]
    rfl
  rw [e, e2]
  rfl
theorem run_mk {pins : List (Addr × Obj)} {s : Shared} {us : List Value} {vs : List V} (M : Mk X.K C g) (F : FnG X.prog X.w X.K X.mg X.base k g fd ps sp) (hr : Room (k + 1) X.A) (gd : X.A.guards = some []) (hb : Binds X.K fd ps []) (I : Inv X pins σ H s) (r : Vals vs us)
    (h : ∀ x dx, H x = none → H dx = none → dx ≠ x → sp (.ref x :: vs) (upd (upd H dx (.own x)) x (.ins C dx [])) (fun v H2 => v = .non ∧ Q (.ref x) H2) E0) :
    wpAny (model X.prog X.w) X.A (call (.ref C) us) (EP X pins σ Q) X.xe s := by
  have hq := h (s.heap.objs.size + 1) s.heap.objs.size (I.hok.fresh (Nat.le_succ _)) (I.hok.fresh (Nat.le_refl _)) (Nat.ne_of_lt (Nat.lt_succ_self _))
  have I2 := Inv.made (C := C) I
  have r2 : Vals (V.ref (s.heap.objs.size + 1) :: vs) (Value.ref (s.heap.objs.size + 1) :: us) := .cons rfl r
  have hl : (Value.ref (s.heap.objs.size + 1) :: us).length = ps.length := by
    rw [← r2.length]
    exact F.arity _ _ _ _ hq
  have b := hb _ (Value.ref (s.heap.objs.size + 1) :: us) I2.kIn (by rw [List.append_nil]; exact hl)
  rw [List.append_nil] at b
  refine wpAny_call (make_map (f := g) I.kIn M.makes M.init (beq_iff_eq.mp M.fn) (codeAny_mono (F.runs _ X.stack _ _ ⟨Value.ref (s.heap.objs.size + 1) :: us, []⟩ (Value.ref (s.heap.objs.size + 1) :: us) _ _ E0 (hr.make C us []) ?_
    (I2.env0.make C us []) b r2 hq) fun r s' hq' => ?_))
  · rw [guards_call]
    exact gd
  cases r with
  | error e => exact hq'.elim
  | ok fl =>
    cases fl with
    | ret u =>
      obtain ⟨v, H', I3, rv, ev, q3⟩ := I2.after hq'
      subst ev
      exact ⟨rv, ⟨V.ref (s.heap.objs.size + 1), H', I3, rfl, q3⟩⟩
    | next => exact False.elim hq'
    | brk => exact False.elim hq'
    | cont => exact False.elim hq'
theorem pe_mk (M : Mk X.K C g) (F : FnG X.prog X.w X.K X.mg X.base k g fd ps sp) (hr : Room (k + 1) X.A) (gd : X.A.guards = some []) (hg : Gl X x) (hm : X.mg x = some (.ref C)) (hb : Binds X.K fd ps [])
    (ha : PA X (e :: es) t) (hdb : (x == ("__debug__" : Str)) = false := by decide) (he : starEach (e :: es) X.env = (false, eval e X.env) :: starEach es X.env := by rfl) (hpl : (backTo pos (starEach es X.env)).any (·.1) = false := by rfl) :
    PE X (.Call (.Name x p) (e :: es) [] pos) (tMk C sp t) := by
  refine ⟨fun pins s σ H Q I h => ?_⟩
  refine wpAny_Call_Name_kw (ld_glob I hg hm ?_ hdb)
  refine PySem.W.callWith_K (h₀ := X.base) I.ok.mod.kin M.kp (thn (ha.run pos pins s σ H _ I h) fun us s1 ⟨vs, H1, I1, r, q⟩ => ⟨I1.kIn, ?_⟩) he hpl
  exact run_mk M F hr gd hb I1 r q
theorem eMak (C : Mak X.prog X.w X.K X.mg X.base k x m) (hr : Room j X.A) (gd : X.A.guards = some []) (hk : k + 1 ≤ j) (hg : Gl X x) (ha : PA X (e :: es) (tAP X.K f)) (hdb : (x == ("__debug__" : Str)) = false := by decide)
    (he : starEach (e :: es) X.env = (false, eval e X.env) :: starEach es X.env := by rfl) (hpl : (backTo pos (starEach es X.env)).any (·.1) = false := by rfl) : PE X (.Call (.Name x p) (e :: es) [] pos) (tE X.K (evMake x m f)) := by
  obtain ⟨C, g, fd, ps, M, F, hm, hn, hb⟩ := C.ex
  refine PEi (pe_mk M F (hr.mono hk) gd hg hm hb ha hdb he hpl) fun σ H Q ⟨A, S, ρ, w, env, p⟩ => ⟨A, S, ρ, w, env, ?_⟩
  have p : Post X.K A H Q (evMake x m f ρ S) := p
  unfold evMake at p
  show PostP X.K A H _ (f ρ S)
  cases hf : f ρ S with
  | no => rw [hf] at p; exact p
  | exc e S => rw [hf] at p; exact p
  | ok vs S1 =>
    rw [hf] at p
    intro A1 xs H1 e1 w1 r1 y dy hy hdy ne
    have p : Post X.K A H Q ((m (.c S1.length :: vs) (S1 ++ [.ins x []])).bind fun v S2 => match v with
      | .d .none => out S.length S2 (.c S1.length)
      | _ => .no) := p
    have l1 := w1.len
    have hy' : (upd H1 dy (.own y)) y = none := by rw [upd_ne (Ne.symm ne)]; exact hy
    have wa := w1.laid (o := .own y) hdy
    have wb : Wf X.K (A1.push y) (S1 ++ [.ins x []]) (upd (upd H1 dy (.own y)) y (.ins C dy [])) := wa.new (o := .ins C dy []) hy' ⟨C, dy, [], hn, upd_same, .nil⟩
    have eb : Ext A1 H1 (A1.push y) (upd (upd H1 dy (.own y)) y (.ins C dy [])) := (Ext.laid hdy).trans (Ext.push hy' wa)
    have ry : Rv X.K (A1.push y) (upd (upd H1 dy (.own y)) y (.ins C dy [])) (.ref y) (.c S1.length) := ⟨y, by
      show (A1.A ++ [y])[S1.length]? = some y
      rw [← l1]; simp, rfl⟩
    refine ⟨A1.push y, _, _, wb, .cons ry (r1.mono eb), ?_⟩
    cases hm : m (.c S1.length :: vs) (S1 ++ [.ins x []]) with
    | no => rw [hm] at p; exact p
    | exc e S => rw [hm] at p; exact p
    | ok v S2 =>
      rw [hm] at p
      dsimp only [Res.bind] at p
      split at p
      · intro v H2 e2 w2 r2
        cases r2
        refine ⟨rfl, ?_⟩
        have q := out_ok w p
        refine q (A1.push y) y H2 ((e1.trans eb).trans e2) w2 ?_
        show (A1.A ++ [y])[S1.length]? = some y
        rw [← l1]; simp
      · exact p.elim
end
/-! ### attributes -/
/-- what the written part says of an attribute of the classes named -/
def ClsF (K : Frg) (nms : List Str) (f : Str) : Prop := ∀ nm ∈ nms, ∃ C, PySem.W.nsIn K mainGlobals nm = some (some (.ref C)) ∧ L2.Cls K C ∧ NoAttr K C f
def fLook (fs : List (Str × Itm)) (f : Str) : Option Itm := fs.lookup f
abbrev FR (K : Frg) (W : Wd) (H : Hp) : List (Str × V) → List (Str × Itm) → Prop := Paired fun p q => p.1 = q.1 ∧ ItmOk K W H p.2 q.2
theorem FR.look {f : Str} : ∀ {fs : List (Str × V)} {ps : List (Str × Itm)} {i : Itm}, FR K W H fs ps → fLook ps f = some i → ∃ v, fs.lookup f = some v ∧ ItmOk K W H v i
  | _, _, _, .nil, h => by cases h
  | (g, v) :: fs, (g', i') :: ps, i, .cons r t, h => by
    have e : g = g' := r.1
    subst e
    unfold fLook at h
    rw [List.lookup_cons] at h ⊢
    split at h
    · rename_i hb
      cases h
      exact ⟨v, rfl, r.2⟩
    · exact FR.look (f := f) t h
theorem FR.none {f : Str} : ∀ {fs : List (Str × V)} {ps : List (Str × Itm)}, FR K W H fs ps → fLook ps f = none → fs.lookup f = none
  | _, _, .nil, h => rfl
  | (g, v) :: fs, (g', i') :: ps, .cons r t, h => by
    have e : g = g' := r.1
    subst e
    unfold fLook at h
    rw [List.lookup_cons] at h ⊢
    split at h
    · cases h
    · exact FR.none (f := f) t h
def fPut (fs : List (Str × Itm)) (f : Str) (i : Itm) : List (Str × Itm) := match fs with
  | [] => [(f, i)]
  | p :: r => if p.1 = f then (p.1, i) :: r else p :: fPut r f i
theorem FR.put {f : Str} {v : V} {i : Itm} (ri : ItmOk K W H v i) : ∀ {fs : List (Str × V)} {ps : List (Str × Itm)}, FR K W H fs ps → FR K W H (putF f v fs) (fPut ps f i)
  | _, _, .nil => .cons ⟨rfl, ri⟩ .nil
  | (g, u) :: fs, (g', i') :: ps, .cons r t => by
    have e : g = g' := r.1
    subst e
    show FR K W H (if g = f then (g, v) :: fs else (g, u) :: putF f v fs) (if g = f then (g, i) :: ps else (g, i') :: fPut ps f i)
    by_cases q : g = f
    · rw [if_pos q, if_pos q]; exact .cons ⟨rfl, ri⟩ t
    · rw [if_neg q, if_neg q]; exact .cons r (FR.put ri t)
def insOf (nms : List Str) (S : Sto) (v : Val) : Option (Nat × Str × List (Str × Itm)) := match v with
  | .c n => match S[n]? with
    | some (.ins nm fs) => if nm ∈ nms then some (n, nm, fs) else none
    | _ => none
  | _ => none
theorem insOf_ok {nms : List Str} {v : Val} {n : Nat} {nm : Str} {fs : List (Str × Itm)} (h : insOf nms S v = some (n, nm, fs)) : v = .c n ∧ S[n]? = some (.ins nm fs) ∧ nm ∈ nms := by
  unfold insOf at h
  split at h
  case h_2 => cases h
  rename_i m
  split at h
  case h_2 => cases h
  rename_i nm' fs' hs
  split at h
  case isFalse => cases h
  rename_i hm
  cases h
  exact ⟨rfl, hs, hm⟩
def evFld (nms : List Str) (f : Str) (fa : Sx) : Sx := fun ρ S => (fa ρ S).bind fun v S1 => match insOf nms S1 v.th with
  | some (_, _, fs) => match fLook fs f with
    | some i => .ok i.val S1
    | none => .no
  | none => .no
theorem ins_at {nms : List Str} {f : Str} {nm : Str} {n : Nat} {fs : List (Str × Itm)} {x : V} (hc : ClsF K nms f) (w : Wf K A S H) (hm : nm ∈ nms) (hs : S[n]? = some (.ins nm fs)) (r : Rv K A H x (.c n)) :
    ∃ a C dx gs, x = .ref a ∧ A.A[n]? = some a ∧ PySem.W.nsIn K mainGlobals nm = some (some (.ref C)) ∧ H a = some (.ins C dx gs) ∧ FR K A H gs fs ∧ L2.Cls K C ∧ NoAttr K C f := by
  obtain ⟨a, ha, rfl⟩ := r
  obtain ⟨C, dx, gs, hn, h1, h2⟩ := w.ok n a _ ha hs
  obtain ⟨C', hn', hc', ha'⟩ := hc nm hm
  rw [hn] at hn'
  cases hn'
  exact ⟨a, C, dx, gs, rfl, ha, hn, h1, h2, hc', ha'⟩
theorem itm_post {i : Itm} {v : V} (w : Wf K A S H) (r : ItmOk K A H v i) (p : Post K A H Q (.ok i.val S)) : Q v H := by
  cases i with
  | d x => exact p v H .refl w r
  | c m => obtain ⟨b, hb, rfl⟩ := r; exact p b H .refl w hb
theorem eFld {nms : List Str} {f : Str} (hc : ClsF X.K nms f) (ha : PE X a (tE X.K fa)) (hb : attributeBase a f X.env (eval a X.env) = eval a X.env := by rfl) : PE X (.Attribute a f pos) (tE X.K (evFld nms f fa)) :=
  PEi (pe_fld ha hb) fun σ H Q ⟨A, S, ρ, w, env, p⟩ => at_seq (P := Post X.K A H Q) w env p (fun h => h) (fun _ _ h => h) fun v S1 x H1 e1 w1 r1 p1 => by
    split at p1
    case h_2 => exact p1.elim
    rename_i n nm fs hi
    obtain ⟨hv, hs, hm⟩ := insOf_ok hi
    rw [hv] at r1
    obtain ⟨y, C, dx, gs, rfl, hy, hn, h1, h2, hc', ha'⟩ := ins_at hc w1 hm hs r1
    split at p1
    case h_2 => exact p1.elim
    rename_i i hl
    obtain ⟨u, hu, ru⟩ := FR.look (f := f) h2 hl
    exact ⟨y, C, dx, gs, u, rfl, h1, hc', ha', hu, itm_post w1 ru (p1.shift e1 w1)⟩
/-! ### o.f = e -/
def sFldQ (nms : List Str) (f : Str) (fo fe : Sx) : Ss := fun ρ S => (fe ρ S).bind fun x S1 => (fo ρ S1).bind fun v S2 => match insOf nms S2 v.th, itmOf x.th with
  | some (n, nm, fs), some i => if fs.length < 1000 ∧ (Cell.ins nm (fPut fs f i)).lt n = true then .ok (.nx ρ) (S2.set n (.ins nm (fPut fs f i))) else .no
  | _, _ => .no
theorem FR.kp {fs : List (Str × V)} {ps : List (Str × Itm)} (e : Kp W.V H W'.V H') (hA : W'.A = W.A) (r : FR K W H fs ps) : FR K W' H' fs ps := Paired.mapP r fun _ _ h => ⟨h.1, h.2.kp e hA⟩
theorem sFldR {o : Expr} {nms : List Str} {f : Str} {fo : Sx} {pos' : Pos} (hc : ClsF X.K nms f) (ho : PE X o (tE X.K fo)) (he : PE X a (tE X.K fa)) (hs : swapsWith a (some (.Attribute o f pos')) pos.line X.env = pure false := by rfl) :
    PS X (.Assign [.Attribute o f pos'] a pos) (tS X.K (sFldQ nms f fo fa)) := PSi (ps_fld ho he hs) fun D σ H ⟨A, S, ρ, w, env, p⟩ =>
  at_seq (P := PostS X.K A H D) w env p (fun h => h) (fun _ _ h => h) fun x S1 xv H1 e1 w1 r1 p1 =>
    at_seq (P := PostS X.K A H D) w1 (env.mono e1) p1 (fun h => h) (fun _ _ h => h) fun v S2 ov H2 e2 w2 r2 p2 => by
      split at p2
      case h_2 => exact p2.elim
      rename_i n nm fs i hi hx
      obtain ⟨hv, hs, hm⟩ := insOf_ok hi
      rw [hv] at r2
      obtain ⟨y, C, dx, gs, rfl, hy, hn, h1, h2, hc', ha'⟩ := ins_at hc w2 hm hs r2
      split at p2
      case isFalse => exact p2.elim
      rename_i hl
      have ri : ItmOk X.K A H2 xv i := itm_ok hx (r1.mono e2)
      have my : y ∈ A.A := List.mem_of_getElem? hy
      refine ⟨y, C, dx, gs, rfl, h1, hc', ha', by rw [Paired.length h2]; exact hl.1, ?_⟩
      have e3 : Ext A H A (upd H2 y (.ins C dx (putF f xv gs))) := (e1.trans e2).trans (.upd my)
      exact p2 A σ _ e3 (w2.upd hy ⟨C, dx, _, hn, upd_same, (h2.put ri).kp (kp_upd my) rfl⟩ hl.2) (env.mono e3)
/-! ### o.f += e, of whole numbers -/
def sFldAdd (nms : List Str) (f : Str) (fo fe : Sx) : Ss := fun ρ S => (fo ρ S).bind fun v S1 => match insOf nms S1 v.th with
  | some (_, nm, fs) => match fLook fs f with
    | some (.d (.int i)) => (fe ρ S1).bind fun x S2 => match x.th with
      | .d (.int j) => match insOf nms S2 v.th with
        | some (n, nm', gs) => if gs.length < 1000 ∧ nm' = nm ∧ (Cell.ins nm (fPut gs f (.d (.int (i + j))))).lt n = true then .ok (.nx ρ) (S2.set n (.ins nm (fPut gs f (.d (.int (i + j)))))) else .no
        | none => .no
      | _ => .no
    | _ => .no
  | none => .no
theorem sFldAddR {o : Expr} {nms : List Str} {f : Str} {fo : Sx} {tpos : Pos} (hc : ClsF X.K nms f) (ho : PE X o (tE X.K fo)) (he : PE X a (tE X.K fa)) : PS X (.AugAssign (.Attribute o f tpos) .Add a pos) (tS X.K (sFldAdd nms f fo fa)) :=
  PSi (ps_fldaug ho he in_add) fun D σ H ⟨A, S, ρ, w, env, p⟩ =>
  at_seq (P := PostS X.K A H D) w env p (fun h => h) (fun _ _ h => h) fun v S1 ov H1 e1 w1 r1 p1 => by
    split at p1
    case h_2 => exact p1.elim
    rename_i n nm fs hi
    obtain ⟨hv, hs, hm⟩ := insOf_ok hi
    have r1' := r1
    rw [hv] at r1
    obtain ⟨y, C, dx, gs, rfl, hy, hn, h1, h2, hc', ha'⟩ := ins_at hc w1 hm hs r1
    split at p1
    case h_2 => exact p1.elim
    rename_i i hl
    obtain ⟨u, hu, ru⟩ := FR.look (f := f) h2 hl
    have ru : Rp X.K A.V H1 u (.int i) := ru
    cases ru
    refine ⟨y, C, dx, gs, _, rfl, h1, hc', ha', hu, ?_⟩
    refine at_seq (P := PostS X.K A H D) w1 (env.mono e1) p1 (fun h => h) (fun _ _ h => h) fun x S2 xv H2 e2 w2 r2 p2 => ?_
    split at p2
    case h_2 => exact p2.elim
    rename_i j hx
    rw [hx] at r2
    have r2 : Rp X.K A.V H2 xv (.int j) := r2
    cases r2
    split at p2
    case h_2 => exact p2.elim
    rename_i n' nm' fs' hi'
    obtain ⟨hv', hs', hm'⟩ := insOf_ok hi'
    rw [hv] at hv'
    cases hv'
    obtain ⟨y', C', dx', gs', ey, hy', hn', h1', h2', hc2, ha2⟩ := ins_at hc w2 hm' hs' (r1.mono e2)
    cases ey
    split at p2
    case isFalse => exact p2.elim
    rename_i hl'
    obtain ⟨hl1, hl2, hl3⟩ := hl'
    subst hl2
    have hC : C' = C := by
      have q := hn'.symm.trans hn
      cases q
      rfl
    subst hC
    have my : y ∈ A.A := List.mem_of_getElem? hy
    refine ⟨i, j, rfl, rfl, dx', gs', h1', by rw [Paired.length h2']; exact hl1, ?_⟩
    have e3 : Ext A H A (upd H2 y (.ins C' dx' (putF f (.int (i + j)) gs'))) := (e1.trans e2).trans (.upd my)
    have ri : ItmOk X.K A H2 (.int (i + j)) (.d (.int (i + j))) := Rp.int _
    exact p2 A σ _ e3 (w2.upd hy' ⟨C', dx', _, hn', upd_same, (h2'.put ri).kp (kp_upd my) rfl⟩ hl3) (env.mono e3)
/-! ### o.m(..) -/
/-- the method m of the classes named keeps the mirror g -/
structure Mth (P : Program) (w : World) (K : Frg) (mg : Str → Option Value) (base : Heap) (k : Nat) (nm : Str) (x : Str) (m : Fn) : Prop where
  ex : ∃ (C f : Addr) (fd : FuncData) (ps : List Str), PySem.W.nsIn K mainGlobals nm = some (some (.ref C)) ∧ L2.Cls K C ∧ Meth K C x f ∧ FnG P w K mg base k f fd ps (spF K m) ∧ Binds K fd ps []
def evMth (nm : Str) (x : Str) (m : Fn) (fo : Sx) (f : SA) : Sx := fun ρ S => (fo ρ S).bind fun v S1 => match insOf [nm] S1 v.th with
  | some (n, _, fs) => match fLook fs x with
    | none => (f ρ S1).bind fun vs S2 => m (.c n :: vs) S2
    | some _ => .no
  | none => .no
theorem Post.imp {r : Res Val} {Q Q' : VK} (p : Post K A H Q r) (h : ∀ v H', Q v H' → Q' v H') : Post K A H Q' r := by
  cases r with
  | no => exact p
  | exc e S => exact p
  | ok v S =>
    cases v with
    | d x => exact fun v H' e w r => h _ _ (p v H' e w r)
    | c n => exact fun a H' e w r => h _ _ (p a H' e w r)
    | f k => exact fun a H' e w r => h _ _ (p a H' e w r)
    | z ds => exact fun v H' e w r => h _ _ (p v H' e w r)
    | g cs i => exact fun as a H' e w q l j => h _ _ (p as a H' e w q l j)
    | x => exact fun a H' e w => h _ _ (p a H' e w)
    | t its => exact fun v H' e w r => h _ _ (p v H' e w r)
    | o nm => exact fun a H' e w r => h _ _ (p a H' e w r)
section
variable {x nm : Str} {o e : Expr} {es : List Expr} {f : SA} {fo : Sx} {k j : Nat} {m : Fn} {C g : Addr} {fd : FuncData} {ps : List Str} {sp : Sp} {t : TA} {ta : TE} {apos : Pos}
def tMt (C : Addr) (m : Str) (sp : Sp) (ta : TE) (t : TA) : TE := fun σ H Q => ta σ H fun x H1 => ∃ a dx fs, x = .ref a ∧ H1 a = some (.ins C dx fs) ∧ fs.lookup m = none ∧ t σ H1 fun vs H2 => sp (x :: vs) H2 Q E0
theorem pe_mt {pl : Sem Bool} (he : PE X o ta) (c : L2.Cls X.K C) (hm : Meth X.K C x g) (F : FnG X.prog X.w X.K X.mg X.base k g fd ps sp) (hr : Room k X.A) (gd : X.A.guards = some []) (hb : Binds X.K fd ps []) (ha : PA X (e :: es) t)
    (hst : starEach (e :: es) X.env = (false, eval e X.env) :: starEach es X.env := by rfl) (hpl : (backTo pos (starEach es X.env)).any (·.1) = false := by rfl)
    (ht : eval (.Call (.Attribute o x apos) (e :: es) [] pos) X.env = (do
      let ov ← eval o X.env
      standAt apos.atName
      let (f, first) ← holding [ov] (getMethod ov x pl)
      callWith pos f first (backTo pos (starEach (e :: es) X.env)) (backToKw pos (keywordEach [] X.env))) := by rfl) :
    PE X (.Call (.Attribute o x apos) (e :: es) [] pos) (tMt C x sp ta t) := by
  refine ⟨fun pins s σ H Q I h => ?_⟩
  refine PySem.W.methodCall_KW (pl := pl) (thn (he.run pins s σ H _ I h) fun u s1 ⟨x, H1, I1, rx, a, dx, fs, ex, ea, l, q⟩ => ?_) ht
  subst ex
  obtain rfl : u = Value.ref a := rx
  refine getmeth_ok I1 ea c hm l ?_
  refine PySem.W.callWith_K (first := [.ref a]) (h₀ := X.base) I.ok.mod.kin hm.kp (thn (ha.run pos pins s1 σ H1 _ I1 q) fun us s2 ⟨vs, H2, I2, r, q2⟩ => ⟨I2.kIn, ?_⟩) hst hpl
  exact runG (us := .ref a :: us) (xs := .ref a :: vs) F hr gd hb I2 (.cons rfl r) q2
theorem pe_mt0 {pl : Sem Bool} (he : PE X o ta) (c : L2.Cls X.K C) (hm : Meth X.K C x g) (F : FnG X.prog X.w X.K X.mg X.base k g fd ps sp) (hr : Room k X.A) (gd : X.A.guards = some []) (hb : Binds X.K fd ps [])
    (ht : eval (.Call (.Attribute o x apos) [] [] pos) X.env = (do
      let ov ← eval o X.env
      standAt apos.atName
      let (f, first) ← holding [ov] (getMethod ov x pl)
      callWith pos f first (backTo pos (starEach [] X.env)) (backToKw pos (keywordEach [] X.env))) := by rfl) :
    PE X (.Call (.Attribute o x apos) [] [] pos) (tMt C x sp ta (fun _ H Q => Q [] H)) := by
  refine ⟨fun pins s σ H Q I h => ?_⟩
  refine PySem.W.methodCall_KW (pl := pl) (thn (he.run pins s σ H _ I h) fun u s1 ⟨x, H1, I1, rx, a, dx, fs, ex, ea, l, q⟩ => ?_) ht
  subst ex
  obtain rfl : u = Value.ref a := rx
  refine getmeth_ok I1 ea c hm l ?_
  exact PySem.W.callWith_K0 (first := [.ref a]) I1.kIn hm.kp (runG (us := [.ref a]) (xs := [.ref a]) F hr gd hb I1 (.cons rfl .nil) q)
theorem mth_ok {fo : Sx} (h : tE K (evMth nm x m fo f) σ H Q) (hn : PySem.W.nsIn K mainGlobals nm = some (some (.ref C))) : tMt C x (spF K m) (tE K fo) (tAr K f) σ H Q := by
  obtain ⟨A, S, ρ, w, env, p⟩ := h
  refine at_seq (P := Post K A H Q) w env p (fun h => h) (fun _ _ h => h) fun v S1 y H1 e1 w1 r1 p1 => ?_
  split at p1
  case h_2 => exact p1.elim
  rename_i n nm' fs hi
  obtain ⟨hv, hs, hm⟩ := insOf_ok hi
  rw [List.mem_singleton] at hm
  subst hm
  rw [hv] at r1
  obtain ⟨a, ha, rfl⟩ := r1
  obtain ⟨C', dx, gs, hn', h1, h2⟩ := w1.ok n a _ ha hs
  rw [hn] at hn'
  cases hn'
  split at p1
  case h_2 => exact p1.elim
  rename_i hl
  refine ⟨a, dx, gs, rfl, h1, FR.none h2 hl, A, S1, ρ, w1, env.mono e1, ?_⟩
  refine PostA.seq (P := Post K A H Q) p1 (fun h => h) (fun _ _ h => h) fun vs S2 xs H2 e2 w2 r2 p2 => ?_
  exact ⟨A, S2, .c n :: vs, w2, .cons ⟨a, ha, rfl⟩ r2, p2.shift (e1.trans e2) w2⟩
theorem eMth {pl : Sem Bool} (M : Mth X.prog X.w X.K X.mg X.base k nm x m) (hr : Room j X.A) (gd : X.A.guards = some []) (hk : k ≤ j) (ho : PE X o (tE X.K fo)) (ha : PA X (e :: es) (tAr X.K f))
    (hst : starEach (e :: es) X.env = (false, eval e X.env) :: starEach es X.env := by rfl) (hpl : (backTo pos (starEach es X.env)).any (·.1) = false := by rfl)
    (ht : eval (.Call (.Attribute o x apos) (e :: es) [] pos) X.env = (do
      let ov ← eval o X.env
      standAt apos.atName
      let (f, first) ← holding [ov] (getMethod ov x pl)
      callWith pos f first (backTo pos (starEach (e :: es) X.env)) (backToKw pos (keywordEach [] X.env))) := by rfl) :
    PE X (.Call (.Attribute o x apos) (e :: es) [] pos) (tE X.K (evMth nm x m fo f)) := by
  obtain ⟨C, g, fd, ps, hn, c, hm, F, hb⟩ := M.ex
  exact PEi (pe_mt (pl := pl) ho c hm F (hr.mono hk) gd hb ha hst hpl ht) fun σ H Q h => mth_ok h hn
theorem eMth0 {pl : Sem Bool} (M : Mth X.prog X.w X.K X.mg X.base k nm x m) (hr : Room j X.A) (gd : X.A.guards = some []) (hk : k ≤ j) (ho : PE X o (tE X.K fo))
    (ht : eval (.Call (.Attribute o x apos) [] [] pos) X.env = (do
      let ov ← eval o X.env
      standAt apos.atName
      let (f, first) ← holding [ov] (getMethod ov x pl)
      callWith pos f first (backTo pos (starEach [] X.env)) (backToKw pos (keywordEach [] X.env))) := by rfl) :
    PE X (.Call (.Attribute o x apos) [] [] pos) (tE X.K (evMth nm x m fo aNil)) := by
  obtain ⟨C, g, fd, ps, hn, c, hm, F, hb⟩ := M.ex
  refine PEi (pe_mt0 (pl := pl) ho c hm F (hr.mono hk) gd hb ht) fun σ H Q h => ?_
  obtain ⟨A, S, ρ, w, env, p⟩ := mth_ok h hn
  refine ⟨A, S, ρ, w, env, p.imp ?_⟩
  rintro v H1 ⟨a, dx, fs, rfl, h1, h2, A', S', ρ', w', env', p'⟩
  exact ⟨a, dx, fs, rfl, h1, h2, p' [] H1 .refl w' .nil⟩
end
end
end MV
set_option Elab.async false
set_option linter.all false
set_option maxRecDepth 100000
/-! Readings by mirrors: a dict walked by keys, by values; it is locked for good. -/
namespace MV
open PySem PySem.Spec PyProof.Rows L2
section
variable {X : Cx} {K : Frg} {a b : Expr} {fa fb : Sx} {pos : Pos} {A A' A1 A2 W W' : Wd} {H H' H1 H2 : Hp} {S S' S1 S2 : Sto} {Q : VK} {ρ : Envi} {σ : L2.St} {D : Ends} {d : Addr} {o : Obj} {kvs : List (Key × V)}
theorem Ext.frz (h : H d = some (.dK kvs)) (n : d ∉ W.V) : Ext W H W (L2.upd H d (.frz o (.dK kvs))) := ⟨rfl, ⟨[], by simp⟩, fun _ h => .inl h, fun b u e _ => by
  by_cases c : b = d
  · subst c
    rw [h] at e
    cases e
    exact ⟨_, upd_same, .inr ⟨o, kvs, rfl, rfl⟩, fun m => (n (Wd.mem.mpr (.inl m))).elim⟩
  · exact ⟨u, by rw [upd_ne c]; exact e, .inl rfl, fun _ => rfl⟩⟩
theorem Wf.frz (w : Wf K W S H) (h : H d = some (.dK kvs)) (n : d ∉ W.V) : Wf K W S (L2.upd H d (.frz o (.dK kvs))) :=
  ⟨w.len, w.nd, w.lt, fun m b k h1 h2 => (w.ok m b k h1 h2).mono (Ext.frz h n).kp (fun u e => by rw [upd_ne (fun z => n (by rw [← z]; exact Wd.mem.mpr (.inr (List.mem_of_getElem? h1))))]; exact e) (w.lt m k h2) (fun _ _ _ h => h), fun p hp => by
    obtain ⟨q, xs, e, mt⟩ := w.pr p hp
    exact ⟨q, xs, by rw [upd_ne (fun z => n (by rw [← z]; exact Wd.mem.mpr (.inl hp)))]; exact e, mt⟩⟩
def tLk (td : TE) : TE := fun σ H Q => td σ H fun x H1 => ∃ d kvs, x = .ref d ∧ ((∃ o, H1 d = some (.frz o (.dK kvs)) ∧ Q (.ref d) H1) ∨ (H1 d = some (.dK kvs) ∧ ∀ o, Q (.ref d) (L2.upd H1 d (.frz o (.dK kvs)))))
theorem pe_lk {e : Expr} {td : TE} (he : PE X e td) : PE X e (tLk td) := by
  refine ⟨fun pins s σ H Q I h => thn (he.run pins s σ H _ I h) fun u s1 ⟨x, H1, I1, rx, d, kvs, ex, q⟩ => ?_⟩
  subst ex
  rcases q with ⟨o, _, q⟩ | ⟨hd, q⟩
  · exact ⟨.ref d, H1, I1, rx, q⟩
  · obtain ⟨od, I2⟩ := I1.lock hd trivial
    exact ⟨.ref d, _, I2, rx, q od⟩
/-- a dict that is a datum, now locked -/
def DicAt (K : Frg) (A : Wd) (H : Hp) (d : Addr) (o : Obj) (kvs : List (Key × V)) (ps : List (PyData × PyData)) : Prop := H d = some (.frz o (.dK kvs)) ∧ d ∉ A.V ∧ RpD K A.V H kvs ps
theorem DicAt.kx {ps : List (PyData × PyData)} (e : Kx A H A' H') (h : DicAt K A H d o kvs ps) : DicAt K A' H' d o kvs ps := by
  obtain ⟨h1, h2, h3⟩ := h
  obtain ⟨⟨o', g, f⟩, m⟩ := e.2 d _ h1 h2
  rcases f with rfl | ⟨ob, kvs', q, rfl⟩
  · exact ⟨g, m, h3.mono e.2⟩
  · cases q
theorem lk_ok {ps : List (PyData × PyData)} {x : V} {R : V → Hp → Prop} (w : Wf K A S H) (r : Rp K A.V H x (.dict ps)) (h : ∀ d o kvs H', x = .ref d → Ext A H A H' → Wf K A S H' → DicAt K A H' d o kvs ps → R (.ref d) H') :
    ∃ d kvs, x = .ref d ∧ ((∃ o, H d = some (.frz o (.dK kvs)) ∧ R (.ref d) H) ∨ (H d = some (.dK kvs) ∧ ∀ o, R (.ref d) (L2.upd H d (.frz o (.dK kvs))))) := by
  cases r with
  | dic l n t =>
    rename_i d kvs
    refine ⟨d, kvs, rfl, ?_⟩
    rcases l with l | ⟨o, l⟩
    · exact .inr ⟨l, fun o => h d o kvs _ rfl (Ext.frz l n) (w.frz l n) ⟨upd_same, n, t.mono (Ext.frz l n).kp⟩⟩
    · exact .inl ⟨o, l, h d o kvs _ rfl .refl w ⟨l, n, t⟩⟩
theorem rp_kD (k : Key) : Rp K A.V H (kV k) (kD k) := by
  cases k with
  | inl i => exact .int i
  | inr x => exact .str x
theorem src_keys {ps : List (PyData × PyData)} : SrcW K (Itk d o kvs) ⟨ps.map (·.1), []⟩ (fun A H => DicAt K A H d o kvs ps) where
  mono := fun A H A' H' e r => r.kx e
  goes := fun i A S H hi w r gk => ⟨r.1, by
    have := congrArg List.length (rpd_keys r.2.2)
    simp at this hi
    omega⟩
  stops := fun A S H w r gk => ⟨r.1, by
    have := congrArg List.length (rpd_keys r.2.2)
    simp at this ⊢
    omega⟩
  yields := fun i A S H x H' hi w r gk y => by
    obtain ⟨rfl, k, v, hk, rfl⟩ := y
    refine ⟨kD k, ?_, .refl, w, rp_kD k⟩
    show (ps.map (·.1))[i]? = _
    rw [rpd_keys r.2.2, List.getElem?_map, hk]
    rfl
theorem src_vals {ps : List (PyData × PyData)} : SrcW K (Itd d o kvs) ⟨ps.map (·.2), []⟩ (fun A H => DicAt K A H d o kvs ps) where
  mono := fun A H A' H' e r => r.kx e
  goes := fun i A S H hi w r gk => ⟨r.1, by
    have := congrArg List.length (rpd_keys r.2.2)
    simp at this hi
    omega⟩
  stops := fun A S H w r gk => ⟨r.1, by
    have := congrArg List.length (rpd_keys r.2.2)
    simp at this ⊢
    omega⟩
  yields := fun i A S H x H' hi w r gk y => by
    obtain ⟨rfl, k, hk⟩ := y
    obtain ⟨d', h1, h2⟩ := (rpl_vals r.2.2).getV (i := i) (v := x) (by rw [List.getElem?_map, hk]; rfl)
    exact ⟨d', h1, .refl, w, h2⟩
def iKeysD (f : Sx) : SI := fun ρ S => (f ρ S).bind fun v S1 => match v.th with
  | .d (.dict ps) => .ok ⟨ps.map (·.1), []⟩ S1
  | _ => .no
def iValsD (f : Sx) : SI := fun ρ S => (f ρ S).bind fun v S1 => match v.th with
  | .d (.dict ps) => .ok ⟨ps.map (·.2), []⟩ S1
  | _ => .no
section
variable {tg e : Expr} {f : Sx} {apos cpos : Pos}
theorem iKD (he : PE X e (tE X.K f)) : PI X tg e (tI X.K (iKeysD f)) := PIi (pi_keys (pe_lk he)) fun σ H R ⟨A, S, ρ, w, env, p⟩ =>
  at_seq (P := PostI X.K A H R) w env p (fun h => h) (fun _ _ h => h) fun v S1 x H1 e1 w1 r1 p1 => by
    split at p1
    case h_2 => exact p1.elim
    rename_i ps hv
    rw [hv] at r1
    refine lk_ok (R := fun x H1 => ∃ d o, x = .ref d ∧ ((∃ kvs, H1 d = some (.frz o (.dK kvs)) ∧ R (Itk d o kvs) H1) ∨ ∃ kvs, H1 d = some (.frz o (.dT kvs)) ∧ R (Itkt d o kvs) H1)) w1 r1 fun d o kvs H2 ex e2 w2 dd => ?_
    exact ⟨d, o, rfl, .inl ⟨kvs, dd.1, p1 _ _ H2 (e1.trans e2) w2 src_keys dd⟩⟩
theorem iVD (he : PE X e (tE X.K f)) (hbase : attributeBase e "values" X.env (eval e X.env) = eval e X.env := by rfl) (hline : (apos.endLine == cpos.line) = true := by rfl) : PI X tg (.Call (.Attribute e "values" apos) [] [] cpos) (tI X.K (iValsD f)) :=
  PIi (pi_values (pe_lk he) hbase hline) fun σ H R ⟨A, S, ρ, w, env, p⟩ =>
  at_seq (P := PostI X.K A H R) w env p (fun h => h) (fun _ _ h => h) fun v S1 x H1 e1 w1 r1 p1 => by
    split at p1
    case h_2 => exact p1.elim
    rename_i ps hv
    rw [hv] at r1
    refine lk_ok (R := fun x H1 => ∃ d o kvs, x = .ref d ∧ H1 d = some (.frz o (.dK kvs)) ∧ R (Itd d o kvs) H1) w1 r1 fun d o kvs H2 ex e2 w2 dd => ?_
    exact ⟨d, o, kvs, rfl, dd.1, p1 _ _ H2 (e1.trans e2) w2 src_vals dd⟩
/-- a list, a tuple, or a dict's keys -/
def iAny (f : Sx) : SI := fun ρ S => match f ρ S with
  | .ok (.d (.dict ps)) S1 => .ok ⟨ps.map (·.1), []⟩ S1
  | .ok (.f (.dic ps)) S1 => .ok ⟨ps.map (·.1), []⟩ S1
  | _ => iSeq f ρ S
theorem iAny_at {ρ : Envi} {S : Sto} (h : (∃ s S1, iKeysD f ρ S = .ok s S1)) : iAny f ρ S = iKeysD f ρ S := by
  obtain ⟨s, S1, h⟩ := h
  unfold iKeysD at h ⊢
  unfold iAny
  cases hf : f ρ S with
  | no => rw [hf] at h; cases h
  | exc e S2 => rw [hf] at h; cases h
  | ok v S2 =>
    rw [hf] at h
    cases v with
    | d x => cases x <;> first | rfl | cases h
    | f k => cases k <;> first | rfl | cases h
    | _ => cases h
theorem iAn (he : PE X e (tE X.K f)) : PI X tg e (tI X.K (iAny f)) := ⟨fun pins s σ H R I ⟨A, S, ρ, w, env, p⟩ => by
  by_cases c : ∃ s S1, iKeysD f ρ S = .ok s S1
  · have p : PostI X.K A H R (iAny f ρ S) := p
    rw [iAny_at c] at p
    exact (iKD he).run pins s σ H R I ⟨A, S, ρ, w, env, p⟩
  · have p : PostI X.K A H R (iAny f ρ S) := p
    have e2 : iAny f ρ S = iSeq f ρ S := by
      unfold iKeysD at c
      unfold iAny
      cases hf : f ρ S with
      | no => rfl
      | exc e S2 => rfl
      | ok v S2 =>
        rw [hf] at c
        cases v with
        | d x => cases x <;> first | rfl | exact (c ⟨_, _, rfl⟩).elim
        | f k => cases k <;> first | rfl | exact (c ⟨_, _, rfl⟩).elim
        | _ => rfl
    rw [e2] at p
    exact (iS he).run pins s σ H R I ⟨A, S, ρ, w, env, p⟩⟩
end
/-! ### list.count of numbers -/
def gCountI (v : Val) (vs : List Val) (S : Sto) : Res Val := match (asR S v).bind intsOf, vs with
  | some ns, [.d (.int k)] => .ok (.d (.int (ns.countP (· == k) : Nat))) S
  | _, _ => .no
def eqki (k : Int) : Value → Bool
  | .int j _ => j == k
  | _ => false
theorem eqki_gives : ∀ {its : List Value} {ns : List Int} {k : Int} {t : Tok}, Vals (ns.map V.int) its → ∀ y ∈ its, MeetsSeq.EqGives y (.int k t) (eqki k y)
  | _, [], _, _, .nil, y, h => by cases h
  | _, n :: ns, k, t, .cons r rs, y, h => by
    rcases List.mem_cons.mp h with rfl | h
    · obtain ⟨u, rfl⟩ := r
      exact .int n k u t
    · exact eqki_gives rs y h
theorem eqki_count : ∀ {its : List Value} {ns : List Int} {k : Int}, Vals (ns.map V.int) its → its.countP (eqki k) = ns.countP (· == k)
  | _, [], _, .nil => rfl
  | _, n :: ns, k, .cons r rs => by
    obtain ⟨u, rfl⟩ := r
    rw [List.countP_cons, List.countP_cons, eqki_count rs]
    rfl
theorem mCountI : MRul X "list.count" gCountI := by
  intro pins s σ A S H x xs u us v vs Q I wf rv rvs ru rus p
  unfold gCountI at p
  split at p
  case h_2 => exact p.elim
  rename_i ns k hns
  cases rvs with | cons r1 r2 =>
  cases r2
  have r1 : Rp X.K A.V H _ (.int k) := r1
  cases r1
  obtain ⟨y, rfl, ry⟩ := vals1 rus
  obtain ⟨t, rfl⟩ := ry
  cases hl : asR S v with
  | none => rw [hl] at hns; cases hns
  | some ds =>
    rw [hl] at hns
    obtain ⟨a, ys, rfl, h1, h2⟩ := asR_ok wf rv hl
    cases ru
    have ed := intsOf_ok (show intsOf ds = some ns from hns)
    subst ed
    have ey := RpL.ints h2
    subst ey
    obtain ⟨its, rvl, ⟨⟨cls, dd, data, sl⟩, n, ho, hc, hdn, hd⟩, hlen⟩ := I.list h1
    simp only at hc hd
    subst hc hd
    refine call_meets PySem.F.slot_list_count ⟨_, ho, rfl⟩ PySem.F.entry_list_count (PySem.F.args_list_count_2 _ _) (SeqAt.list_countAt a its.toArray n dd sl (.int k t) (eqki k)) ⟨ho, fun y hy => (eqki_gives rvl y (by simpa using hy)).at _ _, ?_⟩
    refine ⟨.int (ns.countP (· == k) : Nat), H, I.tok _, ⟨s.toks, ?_⟩, p _ H .refl wf (.int _)⟩
    show Value.int ((its.toArray.toList.countP (eqki k) : Nat) : Int) s.toks = Value.int ((ns.countP (· == k) : Nat) : Int) s.toks
    rw [show its.toArray.toList = its from rfl, eqki_count rvl]
/-! ### contracts of methods, of classes -/
section
variable {P : Program} {w : World} {mg : Str → Option Value} {base : Heap} {nm x qual : Str} {st : Stmt} {C fa : Addr} {fd : FuncData} {N ps : List Str} {k np : Nat} {body : Ss}
theorem mth_mk (F : Fun K x qual st fa fd) (Sc : FnScope N ps (defScope st)) (hnp : ps.length = np) (hn : PySem.W.nsIn K mainGlobals nm = some (some (.ref C))) (c : L2.Cls K C) (hm : Meth K C x fa) (hb : Binds K fd ps [])
    (h : ∀ (cdv : Value) (A : Around) (outer : List PySem.Env) (s : Shared) (H : Hp) (E : XK), Room k (A.deeper (envOfC qual (defScope st) s.heap.objs.size fa cdv)) → A.guards = some [] → PSs (cxOf CX0 P w K mg base N qual (defScope st) fa cdv A outer s H E).nox (defBody st) (tS K body)) :
    Mth P w K mg base (k + 1) nm x (mkFn np N.length body) := ⟨C, fa, fd, ps, hn, c, hm, fn_ok F Sc hnp h, hb⟩
theorem mak_mk (F : Fun K x qual st fa fd) (Sc : FnScope N ps (defScope st)) (hnp : ps.length = np) (M : Mk K C fa) (hg : mg nm = some (.ref C)) (hn : PySem.W.nsIn K mainGlobals nm = some (some (.ref C))) (hb : Binds K fd ps [])
    (h : ∀ (cdv : Value) (A : Around) (outer : List PySem.Env) (s : Shared) (H : Hp) (E : XK), Room k (A.deeper (envOfC qual (defScope st) s.heap.objs.size fa cdv)) → A.guards = some [] → PSs (cxOf CX0 P w K mg base N qual (defScope st) fa cdv A outer s H E).nox (defBody st) (tS K body)) :
    Mak P w K mg base (k + 1) nm (mkFn np N.length body) := ⟨C, fa, fd, ps, M, fn_ok F Sc hnp h, hg, hn, hb⟩
end
end
end MV
set_option Elab.async false
set_option linter.all false
set_option maxRecDepth 100000
/-! x = []; .. ; ys.append(x): a list is made and put into another one, and is changed no more. -/
namespace MV
open PySem PySem.Spec PyProof.Rows L2
def keepE (n : Nat) (ρ : Envi) : Envi := ρ.map fun o => match o with
  | some (.c m) => if m < n then some (.c m) else none
  | some (.t _) => none
  | o => o
def sBld (i j : Nat) (f : Ss) : Ss := fun ρ S => (f ρ S).bind fun w S1 => match w with
  | .nx ρ1 => match ρ1[i]?, ρ1[j]? with
    | some (some (.c m)), some (some (.c n)) => match S1[m]?, S1[n]? with
      | some (.lst ds), some (.lst es) => if S.length ≤ m ∧ n < S.length ∧ es.length < sizeLine then .ok (.nx ((keepE S.length ρ1).set i (some (.d (.list ds))))) ((S1.take S.length).set n (.lst (es ++ [.list ds]))) else .no
      | _, _ => .no
    | _, _ => .no
  | _ => .no
section
variable {X : Cx} {K : Frg} {a b : Expr} {fa fb : Sx} {pos : Pos} {A A' A1 A2 W W' : Wd} {H H' H1 H2 : Hp} {S S' S1 S2 : Sto} {Q : VK} {ρ : Envi} {σ : L2.St} {D : Ends}
theorem REnv.keepE {ρ1 : Envi} {σ' : L2.St} (e : Ext A H A' H') (env : REnv K A' H' ρ1 σ') (n : Nat) (hn : n = A.A.length) : REnv K A H' (keepE n ρ1) σ' := by
  subst hn
  have lessV : ∀ b, b ∈ A.V → b ∈ A'.V := fun b m => by
    rw [Wd.mem] at m ⊢
    obtain ⟨B, h1⟩ := e.pre
    rw [e.pr, h1]
    exact m.imp id fun m => List.mem_append_left _ m
  refine ⟨by unfold MV.keepE; rw [List.length_map]; exact env.len, fun i v h => ?_⟩
  unfold MV.keepE at h
  rw [List.getElem?_map] at h
  obtain ⟨o, h1, h2⟩ := Option.map_eq_some_iff.mp h
  have key : ρ1[i]? = some (some v) ∧ (∀ m, v = .c m → m < A.A.length) ∧ ∀ its, v ≠ .t its := by
    cases o with
    | none => cases h2
    | some u =>
      cases u with
      | c m =>
        have h2 : (if m < A.A.length then some (Val.c m) else none) = some v := h2
        split at h2
        · rename_i hm
          cases h2
          exact ⟨h1, (fun m' q => by cases q; exact hm), (fun _ q => by cases q)⟩
        · cases h2
      | t its => cases h2
      | _ => cases h2; exact ⟨h1, (fun m q => by cases q), (fun _ q => by cases q)⟩
  obtain ⟨x, h3, h4⟩ := env.get i v key.1
  refine ⟨x, h3, ?_⟩
  cases v with
  | d y => exact Rp.mono (kp_less lessV) h4
  | c m =>
    obtain ⟨a, q, rfl⟩ := h4
    obtain ⟨B, h5⟩ := e.pre
    rw [h5, List.getElem?_append_left (key.2.1 m rfl)] at q
    exact ⟨a, q, rfl⟩
  | f k => exact h4
  | g cs i => exact h4
  | x => exact h4
  | t its => exact absurd rfl (key.2.2 its)
  | o nm => exact h4
  | z ds =>
    obtain ⟨a, ys, rfl, g, t⟩ := h4
    exact ⟨a, ys, rfl, g.imp (fun q => ⟨q.1, fun m => q.2 (lessV a m)⟩) id, t.mono (kp_less lessV)⟩
/-- the block -/
theorem ssBld (i j : Nat) {x y : Str} {s1 s2 : Stmt} {f1 f2 : Ss} {p1 p2 apos cpos : Pos} (hi : X.N[i]? = some x) (hj : X.N[j]? = some y) (hij : i ≠ j)
    (hvx : Vis X.env.scope x) (hvy : Vis X.env.scope y) (hdx : (x == ("__debug__" : Str)) = false) (hdy : (y == ("__debug__" : Str)) = false) (hcx : (x == ("__classdict__" : Str)) = false) (hcy : (y == ("__classdict__" : Str)) = false)
    (h1 : PS X s1 (tS X.K f1)) (h2 : PS X s2 (tS X.K f2))
    (hbase : attributeBase (.Name y p1) "append" X.env (eval (.Name y p1) X.env) = eval (.Name y p1) X.env := by rfl)
    (hfew : ((backTo cpos (starEach [.Name x p2] X.env)).all (fun x => !x.1) && (backToKw cpos (keywordEach [] X.env)).all (fun x => x.1.isSome)
      && decide (([Expr.Name x p2] : List Expr).length + ([] : List Keyword).length + (if ([] : List Keyword).isEmpty then 0 else 1) < 30)) = true := by rfl)
    (hline : (apos.endLine == cpos.line) = true := by rfl) (hs : starEach [.Name x p2] X.env = (false, eval (.Name x p2) X.env) :: starEach [] X.env := by rfl) (hplain : (backTo cpos (starEach ([] : List Expr) X.env)).any (·.1) = false := by rfl)
    (hsw : swapsWith (.Call (.Attribute (.Name y p1) "append" apos) [.Name x p2] [] cpos) none pos.line X.env = pure false := by rfl) :
    PSs X [s1, s2, .Expr (.Call (.Attribute (.Name y p1) "append" apos) [.Name x p2] [] cpos) pos] (tS X.K (sBld i j (sSeq f1 f2))) := by
  refine PSsi (pss_cons h1 (pss_cons h2 (pss_one (ps_expr (pe_bm PySem.F.plainAttrs_list PySem.F.slot_list_append PySem.F.type_list_append mt_append (pe_var hj hvy hdy hcy) (pa_cons (pe_var hi hvx hdx hcx) pa_nil) hbase hfew hline hs hplain) hsw)))) ?_
  rintro D σ H ⟨A, S, ρ, w, env, p⟩
  have p : PostS X.K A H D (sBld i j (sSeq f1 f2) ρ S) := p
  -- what comes behind both statements
  have tail : ∀ ρ1 S1 A' σ' H', sSeq f1 f2 ρ S = .ok (.nx ρ1) S1 → Ext A H A' H' → Wf X.K A' S1 H' → REnv X.K A' H' ρ1 σ' → 
      tDrop (tBM X.K "list" rAppend (tVar j) (tCons (tVar i) tNil)) D σ' H' := by
    intro ρ1 S1 A' σ' H' he e w1 env1
    unfold sBld at p
    rw [he] at p
    have p : PostS X.K A H D (match ρ1[i]?, ρ1[j]? with
    | some (some (.c m)), some (some (.c n)) => match S1[m]?, S1[n]? with
      | some (.lst ds), some (.lst es) => if S.length ≤ m ∧ n < S.length ∧ es.length < sizeLine then .ok (.nx ((keepE S.length ρ1).set i (some (.d (.list ds))))) ((S1.take S.length).set n (.lst (es ++ [.list ds]))) else .no
      | _, _ => .no
    | _, _ => .no) := p
    split at p
    case h_2 => exact p.elim
    rename_i m n hm hn
    split at p
    case h_2 => exact p.elim
    rename_i ds es hds hes
    split at p
    case isFalse => exact p.elim
    rename_i c
    obtain ⟨c1, c2, c3⟩ := c
    obtain ⟨u, hu, a, ha, rfl⟩ := env1.get i _ hm
    obtain ⟨v, hv, l, hl, rfl⟩ := env1.get j _ hn
    obtain ⟨xs, g1, g2⟩ := w1.ok m a _ ha hds
    obtain ⟨ys, g3, g4⟩ := w1.ok n l _ hl hes
    have lA : A.A.length = S.length := w.len
    obtain ⟨B, hB⟩ := e.pre
    have hlA : A.A[n]? = some l := by
      rw [hB, List.getElem?_append_left (by omega)] at hl
      exact hl
    have ml : l ∈ A.A := List.mem_of_getElem? hlA
    have naA : a ∉ A.A := fun q => by
      obtain ⟨k, hk, q⟩ := List.mem_iff_getElem.mp q
      have z : A'.A[k]? = some a := by rw [hB, List.getElem?_append_left hk, List.getElem?_eq_getElem hk, q]
      have := (List.getElem?_inj (List.getElem?_eq_some_iff.mp z).1 w1.nd).mp (z.trans ha.symm)
      omega
    have naV : a ∉ A.V := fun q => by
      rcases Wd.mem.mp q with q | q
      · exact (w1.pr a (by rw [e.pr]; exact q)).1 (List.mem_of_getElem? ha)
      · exact naA q
    have lessV : ∀ b, b ∈ A.V → b ∈ A'.V := fun b m => by
      rw [Wd.mem] at m ⊢
      rw [e.pr, hB]
      exact m.imp id fun m => List.mem_append_left _ m
    have ne : a ≠ l := fun q => naA (q ▸ ml)
    have wl := w1.less e
    rw [lA] at wl
    have kl : Kp A'.V H' A.V H' := kp_less lessV
    have ra : Rp X.K A.V (L2.upd H' l (.lst (ys ++ [.ref a]))) (.ref a) (.list ds) := .lst ⟨by rw [upd_ne ne]; exact g1, naV⟩ ((g2.mono kl).mono (kp_upd ml))
    have wf2 : Wf X.K A ((S1.take S.length).set n (.lst (es ++ [.list ds]))) (L2.upd H' l (.lst (ys ++ [.ref a]))) := wl.upd hlA ⟨_, upd_same, ((g4.mono kl).mono (kp_upd ml)).append (.cons ra .nil)⟩
    have e2 : Ext A H A (L2.upd H' l (.lst (ys ++ [.ref a]))) := (Ext.less (B := []) e).trans (.upd ml)
    refine ⟨.ref l, hv, .inl ⟨rfl, ys, SqL.of g3⟩, .ref a, hu, l, ys, .ref a, rfl, rfl, g3, by rw [g4.length]; exact c3, ?_⟩
    refine p A σ' _ e2 wf2 ?_
    have env2 := (env1.keepE e S.length lA.symm).mono (.upd (o := .lst (ys ++ [.ref a])) ml)
    refine ⟨by rw [List.length_set]; exact env2.len, fun k z hk => ?_⟩
    by_cases q : k = i
    · subst q
      have hk2 := (List.getElem?_eq_some_iff.mp hk).1
      rw [List.length_set] at hk2
      rw [List.getElem?_set_self hk2] at hk
      cases hk
      exact ⟨.ref a, hu, ra⟩
    · rw [List.getElem?_set_ne (Ne.symm q)] at hk
      exact env2.get k z hk
  have h0 : PostS X.K A H { D with nx := fun σ' H' => tDrop (tBM X.K "list" rAppend (tVar j) (tCons (tVar i) tNil)) D σ' H' } (sSeq f1 f2 ρ S) := by
    cases hf : sSeq f1 f2 ρ S with
    | no => unfold sBld at p; rw [hf] at p; exact p
    | exc e S => unfold sBld at p; rw [hf] at p; exact p
    | ok v S1 =>
      cases v with
      | nx ρ1 => exact fun A' σ' H' e w1 env1 => tail ρ1 S1 A' σ' H' hf e w1 env1
      | rt v => unfold sBld at p; rw [hf] at p; exact p.elim
      | bk ρ1 => unfold sBld at p; rw [hf] at p; exact p.elim
      | ct ρ1 => unfold sBld at p; rw [hf] at p; exact p.elim
  have h3 := seq_ok w h0
  exact ⟨A, S, ρ, w, env, h3⟩
end
end MV
set_option Elab.async false
set_option linter.all false
set_option maxRecDepth 100000
/-! x = {}; .. ; ys.append(x): a dict is made and put into a list, and is changed no more. -/
namespace MV
open PySem PySem.Spec PyProof.Rows L2
def sBldD (i j : Nat) (f : Ss) : Ss := fun ρ S => (f ρ S).bind fun w S1 => match w with
  | .nx ρ1 => match ρ1[i]?, ρ1[j]? with
    | some (some (.c m)), some (some (.c n)) => match S1[m]?, S1[n]? with
      | some (.dic ds), some (.lst es) => if S.length ≤ m ∧ n < S.length ∧ es.length < sizeLine then .ok (.nx ((keepE S.length ρ1).set i (some (.d (.dict ds))))) ((S1.take S.length).set n (.lst (es ++ [.dict ds]))) else .no
      | _, _ => .no
    | _, _ => .no
  | _ => .no
section
variable {X : Cx} {K : Frg} {a b : Expr} {fa fb : Sx} {pos : Pos} {A A' A1 A2 W W' : Wd} {H H' H1 H2 : Hp} {S S' S1 S2 : Sto} {Q : VK} {ρ : Envi} {σ : L2.St} {D : Ends}
/-- the block -/
theorem ssBldD (i j : Nat) {x y : Str} {s1 s2 : Stmt} {f1 f2 : Ss} {p1 p2 apos cpos : Pos} (hi : X.N[i]? = some x) (hj : X.N[j]? = some y) (hij : i ≠ j)
    (hvx : Vis X.env.scope x) (hvy : Vis X.env.scope y) (hdx : (x == ("__debug__" : Str)) = false) (hdy : (y == ("__debug__" : Str)) = false) (hcx : (x == ("__classdict__" : Str)) = false) (hcy : (y == ("__classdict__" : Str)) = false)
    (h1 : PS X s1 (tS X.K f1)) (h2 : PS X s2 (tS X.K f2))
    (hbase : attributeBase (.Name y p1) "append" X.env (eval (.Name y p1) X.env) = eval (.Name y p1) X.env := by rfl)
    (hfew : ((backTo cpos (starEach [.Name x p2] X.env)).all (fun x => !x.1) && (backToKw cpos (keywordEach [] X.env)).all (fun x => x.1.isSome)
      && decide (([Expr.Name x p2] : List Expr).length + ([] : List Keyword).length + (if ([] : List Keyword).isEmpty then 0 else 1) < 30)) = true := by rfl)
    (hline : (apos.endLine == cpos.line) = true := by rfl) (hs : starEach [.Name x p2] X.env = (false, eval (.Name x p2) X.env) :: starEach [] X.env := by rfl) (hplain : (backTo cpos (starEach ([] : List Expr) X.env)).any (·.1) = false := by rfl)
    (hsw : swapsWith (.Call (.Attribute (.Name y p1) "append" apos) [.Name x p2] [] cpos) none pos.line X.env = pure false := by rfl) :
    PSs X [s1, s2, .Expr (.Call (.Attribute (.Name y p1) "append" apos) [.Name x p2] [] cpos) pos] (tS X.K (sBldD i j (sSeq f1 f2))) := by
  refine PSsi (pss_cons h1 (pss_cons h2 (pss_one (ps_expr (pe_bm PySem.F.plainAttrs_list PySem.F.slot_list_append PySem.F.type_list_append mt_append (pe_var hj hvy hdy hcy) (pa_cons (pe_var hi hvx hdx hcx) pa_nil) hbase hfew hline hs hplain) hsw)))) ?_
  rintro D σ H ⟨A, S, ρ, w, env, p⟩
  have p : PostS X.K A H D (sBldD i j (sSeq f1 f2) ρ S) := p
  -- what comes behind both statements
  have tail : ∀ ρ1 S1 A' σ' H', sSeq f1 f2 ρ S = .ok (.nx ρ1) S1 → Ext A H A' H' → Wf X.K A' S1 H' → REnv X.K A' H' ρ1 σ' → 
      tDrop (tBM X.K "list" rAppend (tVar j) (tCons (tVar i) tNil)) D σ' H' := by
    intro ρ1 S1 A' σ' H' he e w1 env1
    unfold sBldD at p
    rw [he] at p
    have p : PostS X.K A H D (match ρ1[i]?, ρ1[j]? with
    | some (some (.c m)), some (some (.c n)) => match S1[m]?, S1[n]? with
      | some (.dic ds), some (.lst es) => if S.length ≤ m ∧ n < S.length ∧ es.length < sizeLine then .ok (.nx ((keepE S.length ρ1).set i (some (.d (.dict ds))))) ((S1.take S.length).set n (.lst (es ++ [.dict ds]))) else .no
      | _, _ => .no
    | _, _ => .no) := p
    split at p
    case h_2 => exact p.elim
    rename_i m n hm hn
    split at p
    case h_2 => exact p.elim
    rename_i ds es hds hes
    split at p
    case isFalse => exact p.elim
    rename_i c
    obtain ⟨c1, c2, c3⟩ := c
    obtain ⟨u, hu, a, ha, rfl⟩ := env1.get i _ hm
    obtain ⟨v, hv, l, hl, rfl⟩ := env1.get j _ hn
    obtain ⟨xs, g1, g2⟩ := w1.ok m a _ ha hds
    obtain ⟨ys, g3, g4⟩ := w1.ok n l _ hl hes
    have lA : A.A.length = S.length := w.len
    obtain ⟨B, hB⟩ := e.pre
    have hlA : A.A[n]? = some l := by
      rw [hB, List.getElem?_append_left (by omega)] at hl
      exact hl
    have ml : l ∈ A.A := List.mem_of_getElem? hlA
    have naA : a ∉ A.A := fun q => by
      obtain ⟨k, hk, q⟩ := List.mem_iff_getElem.mp q
      have z : A'.A[k]? = some a := by rw [hB, List.getElem?_append_left hk, List.getElem?_eq_getElem hk, q]
      have := (List.getElem?_inj (List.getElem?_eq_some_iff.mp z).1 w1.nd).mp (z.trans ha.symm)
      omega
    have naV : a ∉ A.V := fun q => by
      rcases Wd.mem.mp q with q | q
      · exact (w1.pr a (by rw [e.pr]; exact q)).1 (List.mem_of_getElem? ha)
      · exact naA q
    have lessV : ∀ b, b ∈ A.V → b ∈ A'.V := fun b m => by
      rw [Wd.mem] at m ⊢
      rw [e.pr, hB]
      exact m.imp id fun m => List.mem_append_left _ m
    have ne : a ≠ l := fun q => naA (q ▸ ml)
    have wl := w1.less e
    rw [lA] at wl
    have kl : Kp A'.V H' A.V H' := kp_less lessV
    have ra : Rp X.K A.V (L2.upd H' l (.lst (ys ++ [.ref a]))) (.ref a) (.dict ds) := .dic (.inl (by rw [upd_ne ne]; exact g1)) naV ((g2.mono kl).mono (kp_upd ml))
    have wf2 : Wf X.K A ((S1.take S.length).set n (.lst (es ++ [.dict ds]))) (L2.upd H' l (.lst (ys ++ [.ref a]))) := wl.upd hlA ⟨_, upd_same, ((g4.mono kl).mono (kp_upd ml)).append (.cons ra .nil)⟩
    have e2 : Ext A H A (L2.upd H' l (.lst (ys ++ [.ref a]))) := (Ext.less (B := []) e).trans (.upd ml)
    refine ⟨.ref l, hv, .inl ⟨rfl, ys, SqL.of g3⟩, .ref a, hu, l, ys, .ref a, rfl, rfl, g3, by rw [g4.length]; exact c3, ?_⟩
    refine p A σ' _ e2 wf2 ?_
    have env2 := (env1.keepE e S.length lA.symm).mono (.upd (o := .lst (ys ++ [.ref a])) ml)
    refine ⟨by rw [List.length_set]; exact env2.len, fun k z hk => ?_⟩
    by_cases q : k = i
    · subst q
      have hk2 := (List.getElem?_eq_some_iff.mp hk).1
      rw [List.length_set] at hk2
      rw [List.getElem?_set_self hk2] at hk
      cases hk
      exact ⟨.ref a, hu, ra⟩
    · rw [List.getElem?_set_ne (Ne.symm q)] at hk
      exact env2.get k z hk
  have h0 : PostS X.K A H { D with nx := fun σ' H' => tDrop (tBM X.K "list" rAppend (tVar j) (tCons (tVar i) tNil)) D σ' H' } (sSeq f1 f2 ρ S) := by
    cases hf : sSeq f1 f2 ρ S with
    | no => unfold sBldD at p; rw [hf] at p; exact p
    | exc e S => unfold sBldD at p; rw [hf] at p; exact p
    | ok v S1 =>
      cases v with
      | nx ρ1 => exact fun A' σ' H' e w1 env1 => tail ρ1 S1 A' σ' H' hf e w1 env1
      | rt v => unfold sBldD at p; rw [hf] at p; exact p.elim
      | bk ρ1 => unfold sBldD at p; rw [hf] at p; exact p.elim
      | ct ρ1 => unfold sBldD at p; rw [hf] at p; exact p.elim
  have h3 := seq_ok w h0
  exact ⟨A, S, ρ, w, env, h3⟩
end
end MV
set_option Elab.async false
set_option linter.all false
set_option maxRecDepth 100000
/-! Defs as values: named, handed on, called by a name that holds one. -/
namespace MV
open PySem PySem.Spec PyProof.Rows L2
/-- the def by the name x keeps m, and stands among the module's names -/
structure CalO (P : Program) (w : World) (K : Frg) (mg : Str → Option Value) (base : Heap) (k : Nat) (x : Str) (m : Fn) : Prop where
  ex : ∃ (fa : Addr) (fd : FuncData) (ps : List Str), FnG P w K mg base k fa fd ps (spF K m) ∧ mg x = some (.ref fa) ∧ PySem.W.nsIn K mainGlobals x = some (some (.ref fa)) ∧ PySem.W.keepIn K (.ref fa) = true ∧ Binds K fd ps []
theorem CalO.of {P : Program} {w : World} {K : Frg} {mg : Str → Option Value} {base : Heap} {k : Nat} {x : Str} {m : Fn} {a : Addr} (C : Cal P w K mg base k x m) (h : PySem.W.nsIn K mainGlobals x = some (some (.ref a))) (hm : mg x = some (.ref a)) : CalO P w K mg base k x m := by
  obtain ⟨fa, fd, ps, F, h1, h2, h3⟩ := C.ex
  rw [hm] at h1
  cases h1
  exact ⟨a, fd, ps, F, hm, h, h2, h3⟩
theorem CalO.up {P : Program} {w : World} {K : Frg} {mg : Str → Option Value} {base : Heap} {j k : Nat} {x : Str} {m : Fn} (C : CalO P w K mg base j x m) (h : j ≤ k) : CalO P w K mg base k x m := by
  obtain ⟨fa, fd, ps, F, r⟩ := C.ex
  exact ⟨fa, fd, ps, F.up h, r⟩
def evFn (x : Str) : Sx := fun _ S => .ok (.o x) S
section
variable {X : Cx} {K : Frg} {a b : Expr} {fa fb : Sx} {pos : Pos} {A A' A2 : Wd} {H H' H2 : Hp} {S S' : Sto} {Q : VK} {ρ : Envi} {σ : L2.St} {D : Ends}
theorem eFn {x : Str} {k : Nat} {m : Fn} (C : CalO X.prog X.w X.K X.mg X.base k x m) (hg : Gl X x) (hd : (x == ("__debug__" : Str)) = false := by decide) : PE X (.Name x pos) (tE X.K (evFn x)) := by
  obtain ⟨f, fd, ps, F, hm, hn, hk, hb⟩ := C.ex
  exact PEi (pe_glob hg hm (v := .ref f) rfl hd) fun σ H Q ⟨A, S, ρ, w, env, p⟩ => p f H .refl w hn
/-- what the i-th slot calls, of a few defs -/
def fnAt (T : List (Str × Fn)) : Val → Option Fn
  | .o x => T.lookup x
  | _ => none
def evCallV (i : Nat) (T : List (Str × Fn)) (f : SA) : Sx := fun ρ S => match ρ[i]? with
  | some (some v) => match fnAt T v with
    | some m => evCall m f ρ S
    | none => .no
  | _ => .no
theorem lookup_mem {α β : Type} [BEq α] [LawfulBEq α] {x : α} {m : β} : ∀ {T : List (α × β)}, T.lookup x = some m → (x, m) ∈ T
  | [], h => by cases h
  | (y, n) :: T, h => by
    rw [List.lookup_cons] at h
    split at h
    · rename_i e
      cases h
      rw [eq_of_beq e]
      exact List.mem_cons_self ..
    · exact List.mem_cons_of_mem _ (lookup_mem h)
theorem eCalV (i : Nat) {x : Str} {p : Pos} {e : Expr} {es : List Expr} {f : SA} {k : Nat} {T : List (Str × Fn)} (C : ∀ q ∈ T, CalO X.prog X.w X.K X.mg X.base k q.1 q.2) (hr : Room k X.A) (gd : X.A.guards = some [])
    (ha : PA X (e :: es) (tAr X.K f)) (hN : X.N[i]? = some x := by rfl) (hv : Vis X.env.scope x := by first | exact Or.inl rfl | exact Or.inr (Or.inl rfl) | exact Or.inr (Or.inr rfl)) (hdb : (x == ("__debug__" : Str)) = false := by decide) (hcd : (x == ("__classdict__" : Str)) = false := by decide)
    (he : starEach (e :: es) X.env = (false, eval e X.env) :: starEach es X.env := by rfl) (hpl : (backTo pos (starEach es X.env)).any (·.1) = false := by rfl) : PE X (.Call (.Name x p) (e :: es) [] pos) (tE X.K (evCallV i T f)) := by
  constructor
  intro pins s σ H Q I h
  obtain ⟨A, S, ρ, w, env, q⟩ := h
  have q : Post X.K A H Q (evCallV i T f ρ S) := q
  unfold evCallV at q
  split at q
  case h_2 => exact q.elim
  rename_i v hv1
  split at q
  case h_2 => exact q.elim
  rename_i m hm
  obtain ⟨vx, hx1, rv⟩ := env.get i v hv1
  cases v with
  | o nm =>
    obtain ⟨fa, h1, rfl⟩ := rv
    obtain ⟨fa', fd, ps, F, h2, h3, hk, hb⟩ := (C _ (lookup_mem hm)).ex
    have hn : PySem.W.nsIn X.K mainGlobals nm = some (some (.ref fa')) := h3
    rw [h1] at hn
    cases hn
    refine wpAny_Call_Name_kw (thn ((pe_var (pos := p) hN hv hdb hcd).run pins s σ H (fun v H1 => v = .ref fa ∧ H1 = H) I ⟨.ref fa, hx1, rfl, rfl⟩) fun u s1 ⟨v, H1, I1, r1, q1⟩ => ?_)
    obtain ⟨rfl, rfl⟩ := q1
    cases r1
    have ht : tCl (spF X.K m) (tAr X.K f) σ H1 Q := ⟨A, S, ρ, w, env, PostA.seq (P := Post X.K A H1 Q) q (fun h => h) (fun _ _ h => h) fun vs S1 xs H2 e1 w1 r1 p1 => ⟨A, S1, vs, w1, r1, p1.shift e1 w1⟩⟩
    refine PySem.W.callWith_K (h₀ := X.base) I1.ok.mod.kin hk (thn (ha.run pos pins s1 σ H1 _ I1 ht) fun us s2 ⟨vs, H2, I2, r, q⟩ => ⟨I2.kIn, ?_⟩) he hpl
    exact runG F hr gd hb I2 r q
  | _ => cases hm
end
end MV
set_option Elab.async false
set_option linter.all false
set_option maxRecDepth 100000
set_option maxHeartbeats 4000000
/-! tuple * 1: the tuple itself. -/
namespace MV
open PySem PySem.Spec PyProof.Rows L2
theorem tuple_mul1 (l : Addr) (items : Array Value) (n : Nat) (dd : Option Addr) (sl : Array (Option Value)) (x : Int) (u : Tok) (c0 : (decide (x < -(2 ^ 63)) || decide (x ≥ 2 ^ 63)) = false) (c1 : (items.isEmpty || x == 1) = true) :
    Meets (Builtin.«tuple.__mul__» ⟨[.ref l, .int x u], []⟩) (fun _ R s => s.heap.get? l = some { cls := .type "tuple", dict := dd, data := .seq items n, slots := sl } ∧
      R (.ok (.ret (Value.ref l))) s) :=
  .of_wp fun prog w A R s h => by
    obtain ⟨hp, g, d, tk, os⟩ := s
    obtain ⟨hl, h⟩ := h
    have f1 := AutoSeq1.idx_int
    wp_walk using wpAny_loadPart' hl
    repeat (first
      | (refine wpAny_ite_false (decide_eq_false (by rw [c0]; exact Bool.false_ne_true)) ?_; wp_walk using wpAny_loadPart' hl)
      | (refine wpAny_ite_true (decide_eq_true c1) ?_; wp_walk using wpAny_loadPart' hl))
    exact ⟨_, rfl, h⟩
def gMulT : Val → Val → Sto → Res Val
  | .d (.tuple ds), .d (.int k), S => if ds ≠ [] ∧ 1 ≤ k ∧ k ≤ 1000 ∧ ds.length ≤ 1000 then .ok (.d (.tuple (List.replicate k.toNat ds).flatten)) S else .no
  | _, _, _ => .no
theorem oMulT {X : Cx} : ORul X (binaryOp .Mult) gMulT := by
  intro pins s σ A S H x y u u' v w Q I wf rv rw ru ru' p
  unfold gMulT at p
  split at p
  · rename_i ds k
    split at p
    · rename_i c
      by_cases k1 : k = 1
      · subst k1
        have rv' : Rp X.K A.V H x (.tuple ds) := rv
        have ey : y = .int 1 := Rp.int_inv rw
        subst ey
        obtain ⟨t, e3⟩ := ru'
        subst e3
        have e1 : (List.replicate (1 : Int).toNat ds).flatten = ds := by simp
        rw [e1] at p
        have q : Q x H := p x H .refl wf rv
        cases rv' with | tup l q1 =>
        rename_i a xs
        cases ru
        obtain ⟨its, rv, ⟨⟨cl, dd, dat, slo⟩, go, gc, n, gd⟩, _⟩ := I.tuple l.seq
        dsimp only at gc gd
        subst gc gd
        refine wpAny_binaryOp_repeat_ref (T := "tuple") (U := "int") (by decide) ⟨_, go, rfl⟩ (fun s' => typeIs_int s' 1 t) noFill_tuple_mul F.fills_int_mul F.slot_int_rmul repeat_tuple F.slot_int_index.lookup
          (call_meets F.slot_int_rmul (typeIs_int s 1 t) F.entry_int_rmul (F.args_int_rmul_2 _ _) (int_rmul_tuple 1 t a its.toArray n dd slo)
            ⟨go, rfl, ⟨_, go, rfl⟩, ?_⟩)
        exact call_meets F.slot_tuple_mul ⟨_, go, rfl⟩ F.entry_tuple_mul (F.args_tuple_mul_2 _ _) (tuple_mul1 a its.toArray n dd slo 1 t (by decide) (by simp)) ⟨go, ⟨V.ref a, H, I, rfl, q⟩⟩
      · refine oMul pins s σ A S H x y u u' _ _ Q I wf rv rw ru ru' ?_
        have e : gMul (.d (.tuple ds)) (.d (.int k)) S = .ok (.d (.tuple (List.replicate k.toNat ds).flatten)) S := if_pos ⟨c.1, by omega, c.2.2⟩
        rw [e]
        exact p
    · exact p.elim
  · exact p.elim
end MV
set_option Elab.async false
set_option linter.all false
set_option maxRecDepth 100000
/-! A def picked by its number out of a written list of defs. -/
namespace MV
open PySem PySem.Spec PyProof.Rows L2
def evPick (f : SA) (g : Sx) : Sx := fun ρ S => (f ρ S).bind fun vs S1 => if vs.length ≤ 1000 then (g ρ S1).bind fun v S2 => match v.th with
  | .d (.int i) => match L2.atI vs i with
    | some (.o nm) => .ok (.o nm) S2
    | _ => .no
  | _ => .no
  else .no
section
variable {X : Cx} {K : Frg} {b : Expr} {fb : Sx} {pos : Pos} {A : Wd} {H : Hp} {S : Sto}
theorem paired_get {α β : Type} {R : α → β → Prop} : ∀ {xs : List α} {ys : List β} {i : Nat} {y : β}, Paired R xs ys → ys[i]? = some y → ∃ x, xs[i]? = some x ∧ R x y
  | _, _, i, y, .nil, h => by simp at h
  | _, _, 0, y, .cons r _, h => by simp at h; subst h; exact ⟨_, rfl, r⟩
  | _, _, i + 1, y, .cons _ t, h => paired_get (i := i) t (by simpa using h)
theorem paired_atI {α β : Type} {R : α → β → Prop} {xs : List α} {ys : List β} {i : Int} {y : β} (r : Paired R xs ys) (h : L2.atI ys i = some y) : ∃ x, L2.atI xs i = some x ∧ R x y := by
  unfold L2.atI at h ⊢
  rw [Paired.length r]
  cases q : ixN ys.length i with
  | none => rw [q] at h; cases h
  | some j =>
    rw [q] at h
    exact paired_get r h
theorem ePick {es : List Expr} {f : SA} {p2 : Pos} (ha : PA X es (tAr X.K f)) (hb : PE X b (tE X.K fb)) (hs : PlainIx b := by exact fun _ _ => rfl) : PE X (.Subscript (.List es p2) b pos) (tE X.K (evPick f fb)) := PEi (pe_ix ix_list (pe_lst ha) hb hs) fun σ H Q ⟨A, S, ρ, w, env, p⟩ => by
  refine ⟨A, S, ρ, w, env, ?_⟩
  show PostA X.K A H _ (f ρ S)
  have p : Post X.K A H Q (evPick f fb ρ S) := p
  unfold evPick at p
  cases hf : f ρ S with
  | no => rw [hf] at p; exact p
  | exc e S1 => rw [hf] at p; exact p
  | ok vs S1 =>
    rw [hf] at p
    intro xs H1 e1 w1 r1
    have r1 : Paired (Rv X.K A H1) xs vs := r1
    have p : Post X.K A H Q (if vs.length ≤ 1000 then (fb ρ S1).bind fun v S2 => match v.th with
  | .d (.int i) => match L2.atI vs i with
    | some (.o nm) => .ok (.o nm) S2
    | _ => .no
  | _ => .no
  else .no) := p
    split at p
    case isFalse => exact p.elim
    rename_i hlen
    refine ⟨by rw [Paired.length r1]; exact line1000 hlen, fun q hq => ?_⟩
    have ex : Ext A H1 A (upd H1 q (.lst xs)) := Ext.laid hq
    have w2 : Wf X.K A S1 (upd H1 q (.lst xs)) := w1.laid hq
    have na : q ∉ A.A := w1.offA hq
    refine at_seq (P := Post X.K A H Q) w2 ((env.mono e1).mono ex) p (fun h => h) (fun _ _ h => h) fun v S2 y H2 e2 w3 r3 p3 => ?_
    split at p3
    · rename_i i hi
      split at p3
      · rename_i nm hnm
        rw [hi] at r3
        have ey : y = .int i := Rp.int_inv r3
        subst ey
        obtain ⟨z, hz, a, hn, rfl⟩ := paired_atI r1 hnm
        exact ⟨q, xs, i, .ref a, rfl, rfl, .inl (.inl (e2.keepL upd_same na)), hz, p3 a H2 ((e1.trans ex).trans e2) w3 hn⟩
      · exact p3.elim
    · exact p3.elim
end
end MV
set_option Elab.async false
set_option linter.all false
set_option maxRecDepth 100000
set_option maxHeartbeats 1000000
/-! x.index(k) of a list or a tuple of numbers, k being there. -/
namespace MV
open PySem PySem.Spec PyProof.Rows L2
section
variable {X : Cx} {K : Frg} {A : Wd} {H : Hp} {S : Sto} {Q : VK} {ρ : Envi} {σ : L2.St}
def fIdx (ds : List PyData) : List Val → Option Int
  | [.d (.int k)] => match intsOf ds with
    | some ns => if k ∈ ns then some (ns.idxOf k : Nat) else none
    | none => none
  | _ => none
def gIdxL (v : Val) (vs : List Val) (S : Sto) : Res Val := match asL S v with
  | some ds => match fIdx ds vs with
    | some i => .ok (.d (.int i)) S
    | none => .no
  | none => .no
def gIdxT (v : Val) (vs : List Val) (S : Sto) : Res Val := match v with
  | .d (.tuple ds) => match fIdx ds vs with
    | some i => .ok (.d (.int i)) S
    | none => .no
  | _ => .no
theorem fIdx_ok {ds : List PyData} {vs : List Val} {i : Int} (h : fIdx ds vs = some i) : ∃ (ns : List Int) (k : Int), vs = [.d (.int k)] ∧ ds = ns.map PyData.int ∧ k ∈ ns ∧ i = (ns.idxOf k : Nat) := by
  unfold fIdx at h
  split at h
  case h_2 => cases h
  rename_i k
  split at h
  case h_2 => cases h
  rename_i ns hns
  split at h
  case isFalse => cases h
  rename_i hk
  cases h
  exact ⟨ns, k, rfl, intsOf_ok hns, hk, rfl⟩
theorem one_int {A : Wd} {xs : List V} {us : List Value} {k : Int} (r : RvL K A H xs [.d (.int k)]) (q : Vals xs us) : ∃ t, us = [.int k t] := by
  cases r with | cons r1 r2 =>
  cases r2
  have r1 : Rp K A.V H _ (.int k) := r1
  cases r1
  obtain ⟨y, rfl, t, rfl⟩ := vals1 q
  exact ⟨t, rfl⟩
theorem mIdxL : MRul X "list.index" gIdxL := by
  intro pins s σ A S H x xs u us v vs Q I wf rv rvs ru rus p
  unfold gIdxL at p
  split at p
  case h_2 => exact p.elim
  rename_i ds hds
  split at p
  case h_2 => exact p.elim
  rename_i i hi
  obtain ⟨ns, k, rfl, rfl, hk, rfl⟩ := fIdx_ok hi
  obtain ⟨t, rfl⟩ := one_int rvs rus
  obtain ⟨a, ys, rfl, g, r1⟩ := asL_ok wf rv hds
  cases ru
  obtain ⟨its, rvl, pl, hz⟩ := I.list (SqL.of g)
  have e := r1.ints
  subst e
  refine PySem.SeqAt.list_index_ints (ns := ns) pl.isList (by simpa using rvl.ints) (by simpa using hz) hk ?_
  exact ⟨.int (ns.idxOf k : Nat), H, I.tok _, ⟨s.toks, rfl⟩, p _ H .refl wf (.int _)⟩
theorem mIdxT : MRul X "tuple.index" gIdxT := by
  intro pins s σ A S H x xs u us v vs Q I wf rv rvs ru rus p
  unfold gIdxT at p
  split at p
  case h_2 => exact p.elim
  rename_i ds
  split at p
  case h_2 => exact p.elim
  rename_i i hi
  obtain ⟨ns, k, rfl, rfl, hk, rfl⟩ := fIdx_ok hi
  obtain ⟨t, rfl⟩ := one_int rvs rus
  have rv' : Rp X.K A.V H x (.tuple (ns.map PyData.int)) := rv
  cases rv' with | tup l r1 =>
  cases ru
  have e := r1.ints
  subst e
  obtain ⟨its, rvl, ht, hz⟩ := I.tuple l.seq
  refine PySem.SeqAt.tuple_index_ints (ns := ns) (show s.heap.IsTuple _ its.toArray from ht) (by simpa using rvl.ints) hk ?_
  exact ⟨.int (ns.idxOf k : Nat), H, I.tok _, ⟨s.toks, rfl⟩, p _ H .refl wf (.int _)⟩
/-- a tuple has no dict -/
theorem tup_bare {pins : List (Addr × Obj)} {s : Shared} {L : List Addr} {a : Addr} {xs : List V} (I : Inv X pins σ H s) (h : MV.TupAt X.K L H a xs) : s.TypeIs (.ref a) "tuple" ∧ ∀ b, (Value.ref a) = .ref b → ∃ ob, s.heap.get? b = some ob ∧ ob.dict = none := by
  rcases h with ⟨⟨its, h⟩, _⟩ | ⟨o, its, n, h1, h2, h3, _⟩
  · obtain ⟨g, _⟩ := (show ObjOk X.prog X.w H s.heap a (tupO its xs) from I.hok a _ h)
    refine ⟨⟨_, g, rfl⟩, fun b e => ?_⟩
    cases e
    exact ⟨_, g, rfl⟩
  · refine ⟨⟨o, I.kIn a o h1, h2⟩, fun b e => ?_⟩
    cases e
    exact ⟨o, I.kIn _ o h1, h3⟩
/-- a method that lists and tuples have -/
def evMt2 (gL gT : Val → List Val → Sto → Res Val) (fo : Sx) (f : SA) : Sx := fun ρ S => (fo ρ S).bind fun v S1 => match v.th with
  | .d (.tuple ds) => (f ρ S1).bind fun vs S2 => gT (.d (.tuple ds)) vs S2
  | _ => if tyB "list" S1 v.th = true then (f ρ S1).bind fun vs S2 => gL v.th vs S2 else .no
def tW2 (K : Frg) (L T : V → List V → Hp → VK → Prop) (to : TE) (t : TA) : TE := fun σ H Q => to σ H fun x H1 =>
  (tyW K "list" x H1 ∧ t σ H1 fun xs H2 => L x xs H2 Q) ∨ ((∃ a B ys, x = .ref a ∧ MV.TupAt K B H1 a ys) ∧ t σ H1 fun xs H2 => T x xs H2 Q)
section
variable {o e : Expr} {es : List Expr} {to : TE} {t : TA} {fo : Sx} {f : SA} {name : Str} {apos cpos : Pos} {idL idT : String} {L T : V → List V → Hp → VK → Prop} {gL gT : Val → List Val → Sto → Res Val}
theorem pe_w2 (pL : PlainAttrs "list") (sL : Slot "list" name idL) (tL : typeOf (.builtin idL) = pure (.type "method_descriptor")) (mL : MtR X idL L)
    (pT : PlainAttrs "tuple") (sT : Slot "tuple" name idT) (tT : typeOf (.builtin idT) = pure (.type "method_descriptor")) (mT : MtR X idT T) (ho : PE X o to) (ha : PA X (e :: es) t)
    (hbase : attributeBase o name X.env (eval o X.env) = eval o X.env := by rfl)
    (hfew : ((backTo cpos (starEach (e :: es) X.env)).all (fun x => !x.1) && (backToKw cpos (keywordEach [] X.env)).all (fun x => x.1.isSome)
      && decide ((e :: es).length + ([] : List Keyword).length + (if ([] : List Keyword).isEmpty then 0 else 1) < 30)) = true := by rfl)
    (hline : (apos.endLine == cpos.line) = true := by rfl) (hs : starEach (e :: es) X.env = (false, eval e X.env) :: starEach es X.env := by rfl) (hplain : (backTo cpos (starEach es X.env)).any (·.1) = false := by rfl) :
    PE X (.Call (.Attribute o name apos) (e :: es) [] cpos) (tW2 X.K L T to t) where
  run := fun pins s σ H Q I h => by
    refine wpAny_Call_method_late hbase hfew hline rfl (thn (ho.run pins s σ H _ I h) fun v s1 y => ?_)
    obtain ⟨x, H1, I1, r1, way⟩ := y
    have plain : (false || (backTo cpos (starEach es X.env)).any (·.1)) = false := by rw [hplain] <;> rfl
    rcases way with ⟨ty, q1⟩ | ⟨⟨a, B, ys, rfl, hy⟩, q1⟩
    · obtain ⟨hT, hd⟩ := tyW_is I1 r1 ty
      refine ⟨"list", idL, pL, sL, tL, hT, hd, ?_⟩
      have hA := ha.run cpos pins s1 σ H1 _ I1 q1
      rw [hs] at hA ⊢
      exact Calls.callWith_builtin plain (Calls.evalArgs_plain (thn hA fun us s2 ⟨vs, H2, I2, r2, q2⟩ => mL pins s2 σ H2 x vs v us Q I2 r1 r2 q2))
    · have r1' := r1
      cases r1
      obtain ⟨hT, hd⟩ := tup_bare I1 hy
      refine ⟨"tuple", idT, pT, sT, tT, hT, hd, ?_⟩
      have hA := ha.run cpos pins s1 σ H1 _ I1 q1
      rw [hs] at hA ⊢
      exact Calls.callWith_builtin plain (Calls.evalArgs_plain (thn hA fun us s2 ⟨vs, H2, I2, r2, q2⟩ => mT pins s2 σ H2 (.ref a) vs _ us Q I2 r1' r2 q2))
theorem eM2 (pL : PlainAttrs "list") (sL : Slot "list" name idL) (tL : typeOf (.builtin idL) = pure (.type "method_descriptor")) (mL : MRul X idL gL)
    (pT : PlainAttrs "tuple") (sT : Slot "tuple" name idT) (tT : typeOf (.builtin idT) = pure (.type "method_descriptor")) (mT : MRul X idT gT) (ho : PE X o (tE X.K fo)) (ha : PA X (e :: es) (tAr X.K f))
    (hbase : attributeBase o name X.env (eval o X.env) = eval o X.env := by rfl)
    (hfew : ((backTo cpos (starEach (e :: es) X.env)).all (fun x => !x.1) && (backToKw cpos (keywordEach [] X.env)).all (fun x => x.1.isSome)
      && decide ((e :: es).length + ([] : List Keyword).length + (if ([] : List Keyword).isEmpty then 0 else 1) < 30)) = true := by rfl)
    (hline : (apos.endLine == cpos.line) = true := by rfl) (hs : starEach (e :: es) X.env = (false, eval e X.env) :: starEach es X.env := by rfl) (hplain : (backTo cpos (starEach es X.env)).any (·.1) = false := by rfl) :
    PE X (.Call (.Attribute o name apos) (e :: es) [] cpos) (tE X.K (evMt2 gL gT fo f)) := PEi (pe_w2 pL sL tL mL.mt pT sT tT mT.mt ho ha hbase hfew hline hs hplain) fun σ H Q ⟨A, S, ρ, w, env, p⟩ =>
  at_seq (P := Post X.K A H Q) w env p (fun h => h) (fun _ _ h => h) fun v S1 x H1 e1 w1 r1 p1 => by
    split at p1
    · rename_i ds hv
      rw [hv] at r1
      have r1' : Rp X.K A.V H1 x (.tuple ds) := r1
      refine .inr ⟨?_, A, S1, ρ, w1, env.mono e1, PostA.seq (P := Post X.K A H Q) p1 (fun h => h) (fun _ _ h => h) fun vs S2 xs H2 e2 w2 r2 p2 => ⟨A, S2, .d (.tuple ds), vs, w2, r1.mono e2, r2, p2.shift (e1.trans e2) w2⟩⟩
      cases r1' with | tup l _ => exact ⟨_, _, _, rfl, l⟩
    · split at p1
      · rename_i c
        exact .inl ⟨tyB_ok w1 r1 c, A, S1, ρ, w1, env.mono e1, PostA.seq (P := Post X.K A H Q) p1 (fun h => h) (fun _ _ h => h) fun vs S2 xs H2 e2 w2 r2 p2 => ⟨A, S2, v.th, vs, w2, r1.mono e2, r2, p2.shift (e1.trans e2) w2⟩⟩
      · exact p1.elim
end
end
end MV
set_option Elab.async false
set_option linter.all false
set_option maxRecDepth 100000
set_option maxHeartbeats 1000000
/-! Mirrors evaluated: what a mirror's run comes to, step by step. -/
namespace MV
open PySem PySem.Spec PyProof.Rows L2
/-! ### runs -/
@[irreducible] def wp {α : Type} (r : Res α) (Q : α → Sto → Prop) : Prop := match r with
  | .ok a S => Q a S
  | _ => False
section
variable {α β : Type} {Q P : α → Sto → Prop} {S : Sto} {a : α} {r : Res α}
@[simp] theorem wp_ok : wp (.ok a S) Q = Q a S := by unfold wp; rfl
@[simp] theorem wp_no : wp (Res.no : Res α) Q = False := by unfold wp; rfl
@[simp] theorem wp_exc {e : Exn} : wp (Res.exc e S : Res α) Q = False := by unfold wp; rfl
theorem wp_bind {g : α → Sto → Res β} {R : β → Sto → Prop} : wp (r.bind g) R = wp r fun a S => wp (g a S) R := by
  cases r with
  | ok a S => rw [wp_ok]; rfl
  | exc e S => rw [wp_exc]; exact wp_exc
  | no => rw [wp_no]; exact wp_no
theorem wp.mono (h : wp r P) (i : ∀ a S, P a S → Q a S) : wp r Q := by
  cases r with
  | ok a S => rw [wp_ok] at h ⊢; exact i _ _ h
  | exc e S => rw [wp_exc] at h; exact h.elim
  | no => rw [wp_no] at h; exact h.elim
theorem wp.ex (h : wp r Q) : ∃ a S, r = .ok a S ∧ Q a S := by
  cases r with
  | ok a S => rw [wp_ok] at h; exact ⟨_, _, rfl, h⟩
  | exc e S => rw [wp_exc] at h; exact h.elim
  | no => rw [wp_no] at h; exact h.elim
theorem wp_of (h : r = .ok a S) (q : Q a S) : wp r Q := by rw [h, wp_ok]; exact q
@[simp] theorem bind_ok {g : α → Sto → Res β} : Res.bind (.ok a S) g = g a S := (rfl)
@[simp] theorem bind_no {g : α → Sto → Res β} : Res.bind .no g = .no := (rfl)
@[simp] theorem bind_exc {e : Exn} {g : α → Sto → Res β} : Res.bind (.exc e S) g = .exc e S := (rfl)
theorem bind_of {g : α → Sto → Res β} (h : r = .ok a S) : r.bind g = g a S := by rw [h, bind_ok]
@[simp] theorem bind_assoc {γ : Type} {g : α → Sto → Res β} {k : β → Sto → Res γ} : (r.bind g).bind k = r.bind fun a S => (g a S).bind k := by cases r <;> rfl
end
/-! ### each construct at a frame and a store -/
section
variable {ρ : Envi} {S : Sto} {f g h : Sx} {a : SA} {t u : SB} {s s' : Ss} {i j : Nat}
@[simp] theorem th_d {x : PyData} : (Val.d x).th = .d x := (rfl)
@[simp] theorem th_c {n : Nat} : (Val.c n).th = .c n := (rfl)
@[simp] theorem th_z {n : List PyData} : (Val.z n).th = .z n := (rfl)
@[simp] theorem lt_lst {n : Nat} {ds : List PyData} : Cell.lt n (.lst ds) = true := (rfl)
@[simp] theorem lt_dic {n : Nat} {ds : List (PyData × PyData)} : Cell.lt n (.dic ds) = true := (rfl)
@[simp] theorem th_f {ds : List PyData} : (Val.f (.lst ds)).th = .d (.list ds) := (rfl)
@[simp] theorem th_fd {ds : List (PyData × PyData)} : (Val.f (.dic ds)).th = .d (.dict ds) := (rfl)
@[simp] theorem data_lst {ds : List PyData} : (Cell.lst ds).data = .list ds := (rfl)
@[simp] theorem data_dic {ds : List (PyData × PyData)} : (Cell.dic ds).data = .dict ds := (rfl)
@[simp] theorem e_V : evV i ρ S = (match ρ[i]? with | some (some v) => .ok v S | _ => .no) := (rfl)
@[simp] theorem e_K {x : PyData} : evK x ρ S = .ok (.d x) S := (rfl)
@[simp] theorem e_2 {o : Val → Val → Sto → Res Val} : ev2 o f g ρ S = (f ρ S).bind fun v S1 => (g ρ S1).bind fun w S2 => o v.th w.th S2 := (rfl)
@[simp] theorem e_tst : tst f ρ S = (f ρ S).bind fun v S1 => (match v with | .d (.bool b) => .ok b S1 | _ => .no) := (rfl)
@[simp] theorem e_bAnd : bAnd t u ρ S = (t ρ S).bind fun c S1 => if c = true then u ρ S1 else .ok false S1 := (rfl)
@[simp] theorem e_bOr : bOr t u ρ S = (t ρ S).bind fun c S1 => if c = true then .ok true S1 else u ρ S1 := (rfl)
@[simp] theorem e_bNot : bNot t ρ S = (t ρ S).bind fun c S1 => .ok (!c) S1 := (rfl)
@[simp] theorem e_And : evAnd f g ρ S = (tst f ρ S).bind fun c S1 => if c = true then g ρ S1 else .ok (.d (.bool false)) S1 := (rfl)
@[simp] theorem e_Or : evOr f g ρ S = (tst f ρ S).bind fun c S1 => if c = true then .ok (.d (.bool true)) S1 else g ρ S1 := (rfl)
@[simp] theorem e_Not : evNot f ρ S = (tst f ρ S).bind fun c S1 => .ok (.d (.bool (!c))) S1 := (rfl)
@[simp] theorem e_If : evIf t f g ρ S = (t ρ S).bind fun k S1 => if k = true then f ρ S1 else g ρ S1 := (rfl)
@[simp] theorem e_Un {o : Int → Int} : evUn o f ρ S = (f ρ S).bind fun v S1 => (match v with | .d (.int i) => .ok (.d (.int (o i))) S1 | _ => .no) := (rfl)
@[simp] theorem e_Chain {o o' : Val → Val → Sto → Res Val} : evChain o o' f g h ρ S = (f ρ S).bind fun v S1 => (g ρ S1).bind fun w S2 => (o v.th w.th S2).bind fun z S3 => (match z with
  | .d (.bool true) => (h ρ S3).bind fun u S4 => o' w.th u.th S4
  | .d (.bool false) => .ok z S3
  | _ => .no) := (rfl)
@[simp] theorem e_aNil : aNil ρ S = .ok [] S := (rfl)
@[simp] theorem e_aCons : aCons f a ρ S = (f ρ S).bind fun v S1 => (a ρ S1).bind fun vs S2 => .ok (v.th :: vs) S2 := (rfl)
@[simp] theorem e_Tup : evTup a ρ S = (a ρ S).bind fun vs S1 => (match datas vs with | some ds => if ds.length ≤ 1000 then .ok (.d (.tuple ds)) S1 else .no | none => .no) := (rfl)
@[simp] theorem e_Lst : evLst a ρ S = (a ρ S).bind fun vs S1 => (match datas vs with | some ds => if ds.length ≤ 1000 then .ok (.f (.lst ds)) S1 else .no | none => .no) := (rfl)
@[simp] theorem datas_nil : datas [] = some [] := (rfl)
@[simp] theorem datas_d {x : PyData} {r : List Val} : datas (.d x :: r) = (datas r).map (x :: ·) := (rfl)
@[simp] theorem e_Call {m : List Val → Sto → Res Val} : evCall m a ρ S = (a ρ S).bind m := (rfl)
@[simp] theorem e_sNil : sNil ρ S = .ok (.nx ρ) S := (rfl)
@[simp] theorem e_sSeq : sSeq s s' ρ S = (s ρ S).bind fun w S1 => (match w with | .nx ρ1 => s' ρ1 S1 | .rt v => .ok (.rt v) S1 | .bk ρ1 => .ok (.bk ρ1) S1 | .ct ρ1 => .ok (.ct ρ1) S1) := (rfl)
@[simp] theorem e_sBk : sBk ρ S = .ok (.bk ρ) S := (rfl)
@[simp] theorem e_sCt : sCt ρ S = .ok (.ct ρ) S := (rfl)
@[simp] theorem e_sEx : sEx f ρ S = (f ρ S).bind fun _ S1 => .ok (.nx ρ) S1 := (rfl)
@[simp] theorem e_sRt : sRt f ρ S = (f ρ S).bind fun v S1 => .ok (.rt v) S1 := (rfl)
@[simp] theorem e_sRtN : sRtN ρ S = .ok (.rt (.d .none)) S := (rfl)
@[simp] theorem e_sIf : sIf t s s' ρ S = (t ρ S).bind fun k S1 => if k = true then s ρ S1 else s' ρ S1 := (rfl)
@[simp] theorem e_sSet : sSet i f ρ S = (f ρ S).bind fun v S1 => .ok (.nx (ρ.set i (some v.th))) S1 := (rfl)
@[simp] theorem e_sCell : sCell i f ρ S = (f ρ S).bind fun v S1 => (match v with | .f k => .ok (.nx (ρ.set i (some (.c S1.length)))) (S1 ++ [k]) | .g cs j => .ok (.nx (ρ.set i (some (.c (S1.length + j))))) (S1 ++ cs) | _ => .no) := (rfl)
@[simp] theorem e_sAsg {b : Bnd} : sAsg f b ρ S = (f ρ S).bind fun v S1 => (match v.th with | .d x => (match b.go x ρ with | some ρ1 => .ok (.nx ρ1) S1 | none => .no) | _ => .no) := (rfl)
@[simp] theorem e_sPar : sPar i j a ρ S = (a ρ S).bind fun vs S1 => (match vs with | [v, w] => .ok (.nx ((ρ.set i (some v)).set j (some w))) S1 | _ => .no) := (rfl)
@[simp] theorem e_sPar3 {l : Nat} : sPar3 i j l a ρ S = (a ρ S).bind fun vs S1 => (match vs with | [u, v, w] => .ok (.nx (((ρ.set i (some u)).set j (some v)).set l (some w))) S1 | _ => .no) := (rfl)
@[simp] theorem e_sMul {is : List Nat} : sMul is a ρ S = (a ρ S).bind fun vs S1 => if vs.length = is.length ∧ vs.length ≤ 1000 then .ok (.nx (setAll ρ is vs)) S1 else .no := (rfl)
@[simp] theorem e_setAll {v : Val} {is : List Nat} {vs : List Val} : setAll ρ (i :: is) (v :: vs) = setAll (ρ.set i (some v)) is vs := (rfl)
@[simp] theorem e_setAll0 {vs : List Val} : setAll ρ [] vs = ρ := by cases vs <;> rfl
@[simp] theorem e_aCell : aCell f a ρ S = (f ρ S).bind fun v S1 => (match v with | .f k => (a ρ (S1 ++ [k])).bind fun vs S2 => .ok (.c S1.length :: vs) S2 | .g cs j => (a ρ (S1 ++ cs)).bind fun vs S2 => .ok (.c (S1.length + j) :: vs) S2 | _ => .no) := (rfl)
@[simp] theorem e_sPut : sPut f g h ρ S = (h ρ S).bind fun x S1 => (f ρ S1).bind fun v S2 => (g ρ S2).bind fun i S3 => (match gPut v.th i.th x.th S3 with | some S4 => .ok (.nx ρ) S4 | none => .no) := (rfl)
@[simp] theorem e_sAug {o : Val → Val → Sto → Res Val} : sAug i o f ρ S = (match ρ[i]? with | some (some v) => (f ρ S).bind fun w S1 => (o v w.th S1).bind fun z S2 => .ok (.nx (ρ.set i (some z.th))) S2 | _ => .no) := (rfl)
@[simp] theorem e_Mt {T : String} {m : Val → List Val → Sto → Res Val} : evMt T m f a ρ S = (f ρ S).bind fun v S1 => if tyB T S1 v.th = true then (a ρ S1).bind fun vs S2 => m v.th vs S2 else .no := (rfl)
theorem mt_eval {T : String} {m : Val → List Val → Sto → Res Val} {v : Val} {S1 : Sto} (hf : f ρ S = .ok v S1) (ht : tyB T S1 v.th = true) : evMt T m f a ρ S = (a ρ S1).bind fun vs S2 => m v.th vs S2 := by
  rw [e_Mt, hf, bind_ok, if_pos ht]
@[simp] theorem e_Isi {T : String} : evIsi T f ρ S = (f ρ S).bind fun v S1 => (match kind S1 v.th with | some t => .ok (.d (.bool (isOf T t))) S1 | none => .no) := (rfl)
@[simp] theorem e_oNo : oNo ρ S = .ok none S := (rfl)
@[simp] theorem e_oYes : oYes f ρ S = (f ρ S).bind fun v S1 => (match v with | .d (.int i) => .ok (some i) S1 | _ => .no) := (rfl)
@[simp] theorem e_Sl {lo hi : SO} : evSl f lo hi ρ S = (f ρ S).bind fun v S1 => (lo ρ S1).bind fun l S2 => (hi ρ S2).bind fun h S3 => gSl v.th l h S3 := (rfl)
@[simp] theorem e_iSeq : iSeq f ρ S = (f ρ S).bind fun v S1 => (match seqOf S1 v.th with | some (_, ds, g) => .ok ⟨ds, g⟩ S1 | none => .no) := (rfl)
@[simp] theorem e_iBy {m : List Val → Option Src} : iBy m a ρ S = (a ρ S).bind fun vs S1 => (match m vs with | some s => .ok s S1 | none => .no) := (rfl)
@[simp] theorem e_iByS {m : Sto → List Val → Option Src} : iByS m a ρ S = (a ρ S).bind fun vs S1 => (match m S1 vs with | some s => .ok s S1 | none => .no) := (rfl)
@[simp] theorem go_name {x : PyData} : (bName i).go x ρ = some (ρ.set i (some (.d x))) := (rfl)
@[simp] theorem go_tup {bs : List Bnd} {ds : List PyData} : (bTup bs).go (.tuple ds) ρ = goL bs ds ρ := (rfl)
@[simp] theorem goL_nil : goL [] [] ρ = some ρ := (rfl)
@[simp] theorem goL_cons {b : Bnd} {bs : List Bnd} {x : PyData} {xs : List PyData} : goL (b :: bs) (x :: xs) ρ = (match b.go x ρ with | some ρ1 => goL bs xs ρ1 | none => none) := (rfl)
@[simp] theorem e_bYes : bYes ρ S = .ok true S := (rfl)
end
/-! ### operators -/
section
variable {S : Sto} {i j : Int} {ds es : List PyData} {n : Nat}
@[simp] theorem o_int {C : Int → Int → Bool} {g : Int → Int → PyData} : gInt C g (.d (.int i)) (.d (.int j)) S = if C i j = true then .ok (.d (g i j)) S else .no := (rfl)
@[simp] theorem o_sub : gSub (.d (.int i)) (.d (.int j)) S = .ok (.d (.int (i - j))) S := (rfl)
@[simp] theorem o_add : gAdd (.d (.int i)) (.d (.int j)) S = .ok (.d (.int (i + j))) S := (rfl)
@[simp] theorem o_div (h1 : 0 < j) (h2 : j < 1152921504606846976) : gDiv (.d (.int i)) (.d (.int j)) S = .ok (.d (.int (i / j))) S := by
  show (if decide _ = true then _ else _) = _
  have h3 : j.natAbs.log2 < 60 := (Nat.log2_lt (by omega)).mpr (by omega)
  rw [decide_eq_true ⟨h1, by omega⟩, if_pos rfl]
@[simp] theorem o_mod (h : 0 < j) : gMod (.d (.int i)) (.d (.int j)) S = .ok (.d (.int (i % j))) S := by
  show (if decide _ = true then _ else _) = _
  rw [decide_eq_true h, if_pos rfl]
theorem mulOk_l (h : -(2 ^ 64) < i ∧ i < 2 ^ 64) : mulOk i j = true := decide_eq_true (.inl (.inl h))
theorem mulOk_r (h : -(2 ^ 64) < j ∧ j < 2 ^ 64) : mulOk i j = true := decide_eq_true (.inl (.inr h))
theorem o_mul (h : mulOk i j = true) : gMul (.d (.int i)) (.d (.int j)) S = .ok (.d (.int (i * j))) S := if_pos h
@[simp] theorem o_mulL (h1 : -18446744073709551616 < i) (h2 : i < 18446744073709551616) : gMul (.d (.int i)) (.d (.int j)) S = .ok (.d (.int (i * j))) S := if_pos (mulOk_l (by omega))
@[simp] theorem o_mulR (h1 : -18446744073709551616 < j) (h2 : j < 18446744073709551616) : gMul (.d (.int i)) (.d (.int j)) S = .ok (.d (.int (i * j))) S := if_pos (mulOk_r (by omega))
@[simp] theorem o_lt : gLt (.d (.int i)) (.d (.int j)) S = .ok (.d (.bool (decide (i < j)))) S := (rfl)
@[simp] theorem o_le : gLe (.d (.int i)) (.d (.int j)) S = .ok (.d (.bool (decide (i ≤ j)))) S := (rfl)
@[simp] theorem o_gt : gGt (.d (.int i)) (.d (.int j)) S = .ok (.d (.bool (decide (j < i)))) S := (rfl)
@[simp] theorem o_ge : gGe (.d (.int i)) (.d (.int j)) S = .ok (.d (.bool (decide (j ≤ i)))) S := (rfl)
@[simp] theorem o_addT (h : ds.length + es.length ≤ sizeLine) : gAdd (.d (.tuple ds)) (.d (.tuple es)) S = .ok (.d (.tuple (ds ++ es))) S := by
  show (if _ then _ else _) = _
  rw [if_pos h]
@[simp] theorem asL_l : asL S (.d (.list ds)) = some ds := (rfl)
@[simp] theorem asL_t : asL S (.d (.tuple ds)) = none := (rfl)
@[simp] theorem asL_i : asL S (.d (.int i)) = none := (rfl)
@[simp] theorem asL_c : asL S (.c n) = (match S[n]? with | some (.lst ds) => some ds | _ => none) := (rfl)
@[simp] theorem asD_d {x : PyData} : asD S (.d x) = some x := (rfl)
@[simp] theorem asD_z : asD S (.z ds) = some (.list ds) := (rfl)
@[simp] theorem asD_c : asD S (.c n) = (match S[n]? with | some (.lst ds) => some (.list ds) | _ => none) := (rfl)
theorem o_addL {v w : Val} (h1 : asL S v = some ds) (h2 : asL S w = some es) (h : ds.length + es.length ≤ sizeLine) : gAdd v w S = .ok (.f (.lst (ds ++ es))) S := by
  unfold gAdd
  split
  · cases h1
  · cases h1
  · cases h1
  · rw [h1, h2]; exact if_pos h
@[simp] theorem seq_t : seqOf S (.d (.tuple ds)) = some (true, ds, []) := (rfl)
@[simp] theorem seq_l : seqOf S (.d (.list ds)) = some (false, ds, []) := (rfl)
@[simp] theorem seq_z : seqOf S (.z ds) = some (false, ds, []) := (rfl)
@[simp] theorem seq_c : seqOf S (.c n) = (match S[n]? with | some (.lst ds) => some (false, ds, [(n, ds)]) | _ => none) := (rfl)
@[simp] theorem asM_t : asM S (.d (.tuple ds)) = none := (rfl)
@[simp] theorem asM_l : asM S (.d (.list ds)) = none := (rfl)
@[simp] theorem asM_z : asM S (.z ds) = none := (rfl)
@[simp] theorem asM_i : asM S (.d (.int i)) = none := (rfl)
@[simp] theorem asM_s {x : Str} : asM S (.d (.str x)) = none := (rfl)
@[simp] theorem asM_c : asM S (.c n) = (match S[n]? with | some (.dic ps) => some ps | _ => none) := (rfl)
/-- == -/
theorem o_eq {v w : Val} {x y : PyData} (h1 : asD S v = some x) (h2 : asD S w = some y) (s1 : SeqAt.shaped x = true) (s2 : SeqAt.shaped y = true) : gEq v w S = .ok (.d (.bool (PyData.eqv x y))) S := by
  unfold gEq
  split
  · cases h1; cases h2
    rw [PyData.eqv]
    rfl
  · rw [h1, h2]
    exact if_pos ⟨s1, s2⟩
theorem o_ne {v w : Val} {x y : PyData} (h1 : asD S v = some x) (h2 : asD S w = some y) (s1 : SeqAt.shaped x = true) (s2 : SeqAt.shaped y = true) : gNe v w S = .ok (.d (.bool (!PyData.eqv x y))) S := by
  unfold gNe
  split
  · cases h1; cases h2
    rw [PyData.eqv]
    rfl
  · rw [h1, h2]
    exact if_pos ⟨s1, s2⟩
@[simp] theorem o_eqS {x y : Str} : gEq (.d (.str x)) (.d (.str y)) S = .ok (.d (.bool (decide (x = y)))) S := (rfl)
@[simp] theorem o_neS {x y : Str} : gNe (.d (.str x)) (.d (.str y)) S = .ok (.d (.bool (!decide (x = y)))) S := (rfl)
theorem shaped_int (i : Int) : SeqAt.shaped (.int i) = true := by simp [SeqAt.shaped, PyData.canLay0, PyData.depth]
theorem shaped_bool (i : Bool) : SeqAt.shaped (.bool i) = true := by simp [SeqAt.shaped, PyData.canLay0, PyData.depth]
theorem shaped_str {i : Str} (h : PyData.strOk i = true) : SeqAt.shaped (.str i) = true := by simp [SeqAt.shaped, PyData.canLay0, PyData.depth, h]
theorem shaped_none : SeqAt.shaped .none = true := by simp [SeqAt.shaped, PyData.canLay0, PyData.depth]
@[simp] theorem o_eqI : gEq (.d (.int i)) (.d (.int j)) S = .ok (.d (.bool (i == j))) S := by
  rw [o_eq (x := .int i) (y := .int j) rfl rfl (shaped_int _) (shaped_int _)]
  simp [PyData.eqv]
@[simp] theorem o_neI : gNe (.d (.int i)) (.d (.int j)) S = .ok (.d (.bool (!(i == j)))) S := by
  rw [o_ne (x := .int i) (y := .int j) rfl rfl (shaped_int _) (shaped_int _)]
  simp [PyData.eqv]
/-- in -/
theorem o_inT {d : PyData} (h : ∀ i, d ≠ .str i ∨ True) (s1 : SeqAt.shaped d = true) (s2 : SeqAt.shaped (.list ds) = true) : isIn S (.d d) (.d (.tuple ds)) = some (ds.any fun z => PyData.eqv z d) := by
  have e : isIn S (.d d) (.d (.tuple ds)) = (if SeqAt.shaped d = true ∧ SeqAt.shaped (.list ds) = true then some (ds.any fun z => PyData.eqv z d) else none) := by
    unfold isIn
    cases d <;> rfl
  rw [e, if_pos ⟨s1, s2⟩]
theorem o_inL {v : Val} {d : PyData} {n : Nat} (h : asD S v = some d) (e : S[n]? = some (.lst ds)) (s1 : SeqAt.shaped d = true) (s2 : SeqAt.shaped (.list ds) = true) : isIn S v (.c n) = some (ds.any fun z => PyData.eqv z d) := by
  have e2 : rowOf S (.c n) = some ds := by
    show (match asD S (.c n) with | some (.list ds) => some ds | _ => none) = _
    rw [asD_c, e]
  unfold isIn
  rw [asM_c, e]
  dsimp only
  split
  · rename_i q; cases q
  · rw [h, e2]
    exact if_pos ⟨s1, s2⟩
@[simp] theorem o_isN {v : Val} : gIsN v (.d .none) S = .ok (.d (.bool (isNone v))) S := by cases v <;> rfl
@[simp] theorem o_notN {v : Val} : gNotN v (.d .none) S = .ok (.d (.bool (!isNone v))) S := by cases v <;> rfl
/-- x[i] -/
@[simp] theorem o_ixT : gIx (.d (.tuple ds)) (.d (.int i)) S = (match atI ds i with | some d => .ok (.d d) S | none => .no) := (rfl)
@[simp] theorem o_ixL : gIx (.d (.list ds)) (.d (.int i)) S = (match atI ds i with | some d => .ok (.d d) S | none => .no) := (rfl)
@[simp] theorem o_ixZ : gIx (.z ds) (.d (.int i)) S = (match atI ds i with | some d => .ok (.d d) S | none => .no) := (rfl)
theorem o_ixC (h : S[n]? = some (.lst ds)) : gIx (.c n) (.d (.int i)) S = (match atI ds i with | some d => .ok (.d d) S | none => .no) := by
  show (match asM S (.c n) with | some ps => _ | none => _) = _
  rw [asM_c, h]
  show gIxS (.c n) i S = _
  unfold gIxS
  rw [seq_c, h]
  all_goals rfl
@[simp] theorem o_slT {lo hi : Option Int} : gSl (.d (.tuple ds)) lo hi S = .ok (.d (.tuple (cutD ds lo hi))) S := (rfl)
@[simp] theorem o_slL {lo hi : Option Int} : gSl (.d (.list ds)) lo hi S = .ok (.f (.lst (cutD ds lo hi))) S := (rfl)
@[simp] theorem o_slZ {lo hi : Option Int} : gSl (.z ds) lo hi S = .ok (.f (.lst (cutD ds lo hi))) S := (rfl)
theorem o_slC {lo hi : Option Int} (h : S[n]? = some (.lst ds)) : gSl (.c n) lo hi S = .ok (.f (.lst (cutD ds lo hi))) S := by
  unfold gSl
  rw [seq_c, h]
end
/-! ### loops -/
section
variable {α : Type} {ρ : Envi} {S : Sto} {s : Src} {bd : Bnd} {b : Ss} {enc : α → PyData}
theorem chk_pos {β : Type} {r : Res β} (h : GOk S s) : chk S s r = r := if_pos h
theorem gok_nil {ds : List PyData} : GOk S ⟨ds, []⟩ := fun p h => by cases h
theorem forGo_wp (I : List α → Envi → Sto → Prop) {xs : List α} {Q : Fw → Sto → Prop} (hg : ∀ pre ρ S, I pre ρ S → GOk S s)
    (step : ∀ pre x post ρ S, xs = pre ++ x :: post → I pre ρ S → ∃ ρ1, bd.go (enc x) ρ = some ρ1 ∧ wp (b ρ1 S) fun w S2 => match w with
      | .nx ρ2 => I (pre ++ [x]) ρ2 S2
      | .ct ρ2 => I (pre ++ [x]) ρ2 S2
      | .bk ρ2 => Q (.nx ρ2) S2
      | .rt v => Q (.rt v) S2)
    (done : ∀ ρ S, I xs ρ S → Q (.nx ρ) S) : ∀ (post pre : List α) (ρ : Envi) (S : Sto), xs = pre ++ post → I pre ρ S → wp (forGo s bd b (post.map enc) ρ S) Q
  | [], pre, ρ, S, e, h => by
    rw [List.append_nil] at e
    subst e
    show wp (chk S s (.ok (.nx ρ) S)) Q
    rw [chk_pos (hg _ _ _ h), wp_ok]
    exact done _ _ h
  | x :: post, pre, ρ, S, e, h => by
    obtain ⟨ρ1, h1, h2⟩ := step pre x post ρ S e h
    show wp (chk S s (match bd.go (enc x) ρ with
      | some ρ1 => (b ρ1 S).bind fun w S2 => match w with
        | .nx ρ2 => forGo s bd b (post.map enc) ρ2 S2
        | .ct ρ2 => forGo s bd b (post.map enc) ρ2 S2
        | .bk ρ2 => .ok (.nx ρ2) S2
        | .rt v => .ok (.rt v) S2
      | none => .no)) Q
    rw [chk_pos (hg _ _ _ h), h1]
    dsimp only
    rw [wp_bind]
    refine h2.mono fun w S2 q => ?_
    cases w with
    | nx ρ2 => exact forGo_wp I hg step done post (pre ++ [x]) ρ2 S2 (by rw [e]; simp) q
    | ct ρ2 => exact forGo_wp I hg step done post (pre ++ [x]) ρ2 S2 (by rw [e]; simp) q
    | bk ρ2 => rw [wp_ok]; exact q
    | rt v => rw [wp_ok]; exact q
/-- a loop over a row of data, by an invariant -/
theorem wp_for (I : List α → Envi → Sto → Prop) {src : SI} {S1 : Sto} (xs : List α) (enc : α → PyData) {Q : Fw → Sto → Prop} (hs : src ρ S = .ok s S1) (hi : s.items = xs.map enc) (hg : ∀ pre ρ S, I pre ρ S → GOk S s) (h0 : I [] ρ S1)
    (step : ∀ pre x post ρ S, xs = pre ++ x :: post → I pre ρ S → ∃ ρ1, bd.go (enc x) ρ = some ρ1 ∧ wp (b ρ1 S) fun w S2 => match w with
      | .nx ρ2 => I (pre ++ [x]) ρ2 S2
      | .ct ρ2 => I (pre ++ [x]) ρ2 S2
      | .bk ρ2 => Q (.nx ρ2) S2
      | .rt v => Q (.rt v) S2)
    (done : ∀ ρ S, I xs ρ S → Q (.nx ρ) S) : wp (sFo src bd b ρ S) Q := by
  show wp ((src ρ S).bind fun s S1 => forGo s bd b s.items ρ S1) Q
  rw [hs, bind_ok, hi]
  exact forGo_wp I hg step done xs [] ρ S1 rfl h0
theorem wp_while {c : SB} {b : Ss} {Q : Fw → Sto → Prop} (I : Nat → Envi → Sto → Prop)
    (step : ∀ m ρ S, I m ρ S → wp (c ρ S) fun k S1 => if k = true then wp (b ρ S1) (fun w S2 => match w with
      | .nx ρ2 => ∃ m', m' < m ∧ I m' ρ2 S2
      | .ct ρ2 => ∃ m', m' < m ∧ I m' ρ2 S2
      | .bk ρ2 => Q (.nx ρ2) S2
      | .rt v => Q (.rt v) S2) else Q (.nx ρ) S1) : ∀ (n m : Nat) (ρ : Envi) (S : Sto), m < n → I m ρ S → wp (sWhN c b n ρ S) Q
  | 0, m, ρ, S, h, _ => absurd h (Nat.not_lt_zero m)
  | n + 1, m, ρ, S, h, i => by
    show wp ((c ρ S).bind fun k S1 => if k = true then (b ρ S1).bind fun w S2 => (match w with
      | .nx ρ1 => sWhN c b n ρ1 S2
      | .ct ρ1 => sWhN c b n ρ1 S2
      | .bk ρ1 => .ok (.nx ρ1) S2
      | .rt v => .ok (.rt v) S2)
    else .ok (.nx ρ) S1) Q
    rw [wp_bind]
    refine (step m ρ S i).mono fun k S1 q => ?_
    cases k with
    | false => rw [if_neg Bool.false_ne_true] at q ⊢; rw [wp_ok]; exact q
    | true =>
      rw [if_pos rfl] at q ⊢
      rw [wp_bind]
      refine q.mono fun w S2 q => ?_
      cases w with
      | nx ρ2 => obtain ⟨m', h1, h2⟩ := q; exact wp_while I step n m' ρ2 S2 (by omega) h2
      | ct ρ2 => obtain ⟨m', h1, h2⟩ := q; exact wp_while I step n m' ρ2 S2 (by omega) h2
      | bk ρ2 => rw [wp_ok]; exact q
      | rt v => rw [wp_ok]; exact q
/-! ### comprehensions -/
theorem cGo_wp {t : SB} {e : Sx} (I : List α → List PyData → Sto → Prop) {xs : List α} {Q : List PyData → Sto → Prop} (hg : ∀ pre acc S, I pre acc S → GOk S s)
    (step : ∀ pre x post acc S, xs = pre ++ x :: post → I pre acc S → ∃ ρ1, bd.go (enc x) ρ = some ρ1 ∧ wp (t ρ1 S) fun k S1 => if k = true then wp (e ρ1 S1) (fun v S2 => ∃ y, v.th = .d y ∧ I (pre ++ [x]) (acc ++ [y]) S2) else I (pre ++ [x]) acc S1)
    (done : ∀ acc S, I xs acc S → Q acc S) : ∀ (post pre : List α) (acc : List PyData) (S : Sto), xs = pre ++ post → I pre acc S → wp (cGo s bd t e ρ (post.map enc) acc S) Q
  | [], pre, acc, S, eq, h => by
    rw [List.append_nil] at eq
    subst eq
    show wp (chk S s (.ok acc S)) Q
    rw [chk_pos (hg _ _ _ h), wp_ok]
    exact done _ _ h
  | x :: post, pre, acc, S, eq, h => by
    obtain ⟨ρ1, h1, h2⟩ := step pre x post acc S eq h
    show wp (chk S s (match bd.go (enc x) ρ with
      | some ρ1 => (t ρ1 S).bind fun k S1 => if k = true then (e ρ1 S1).bind fun v S2 => (match v.th with
          | .d y => cGo s bd t e ρ (post.map enc) (acc ++ [y]) S2
          | _ => .no)
        else cGo s bd t e ρ (post.map enc) acc S1
      | none => .no)) Q
    rw [chk_pos (hg _ _ _ h), h1]
    dsimp only
    rw [wp_bind]
    refine h2.mono fun k S1 q => ?_
    cases k with
    | false => exact cGo_wp I hg step done post (pre ++ [x]) acc S1 (by rw [eq]; simp) q
    | true =>
      rw [if_pos rfl] at q ⊢
      rw [wp_bind]
      refine q.mono fun v S2 ⟨y, hy, q⟩ => ?_
      rw [hy]
      exact cGo_wp I hg step done post (pre ++ [x]) (acc ++ [y]) S2 (by rw [eq]; simp) q
theorem wp_comp {src : SI} {t : SB} {e : Sx} {own : List Nat} {S1 : Sto} {Q : Val → Sto → Prop} (I : List α → List PyData → Sto → Prop) (xs : List α) (enc : α → PyData) (hs : src ρ S = .ok s S1) (hi : s.items = xs.map enc) (hl : xs.length ≤ sizeLine)
    (hg : ∀ pre acc S, I pre acc S → GOk S s) (h0 : I [] [] S1)
    (step : ∀ pre x post acc S, xs = pre ++ x :: post → I pre acc S → ∃ ρ1, bd.go (enc x) (wipeE ρ own) = some ρ1 ∧ wp (t ρ1 S) fun k S1 => if k = true then wp (e ρ1 S1) (fun v S2 => ∃ y, v.th = .d y ∧ I (pre ++ [x]) (acc ++ [y]) S2) else I (pre ++ [x]) acc S1)
    (done : ∀ acc S, I xs acc S → Q (.f (.lst acc)) S) : wp (evComp src bd t e own ρ S) Q := by
  show wp ((src ρ S).bind fun s S1 => if s.items.length ≤ sizeLine then (cGo s bd t e (wipeE ρ own) s.items [] S1).bind fun ds S2 => .ok (.f (.lst ds)) S2 else .no) Q
  rw [hs, bind_ok, hi, if_pos (by rw [List.length_map]; exact hl), wp_bind]
  exact cGo_wp I hg step (fun acc S q => by rw [wp_ok]; exact done acc S q) xs [] [] S1 rfl h0
theorem cGo_pure {t : SB} {e : Sx} (p : α → Bool) (F : α → PyData) (hg : GOk S s) : ∀ (xs : List α) (acc : List PyData)
    (h : ∀ x ∈ xs, ∃ ρ1, bd.go (enc x) ρ = some ρ1 ∧ t ρ1 S = .ok (p x) S ∧ (p x = true → ∃ v, e ρ1 S = .ok v S ∧ v.th = .d (F x))), cGo s bd t e ρ (xs.map enc) acc S = .ok (acc ++ (xs.filter p).map F) S
  | [], acc, h => by
    show chk S s (.ok acc S) = _
    rw [chk_pos hg]; simp
  | x :: xs, acc, h => by
    obtain ⟨ρ1, h1, h2, h3⟩ := h x (by simp)
    show chk S s (match bd.go (enc x) ρ with
      | some ρ1 => (t ρ1 S).bind fun k S1 => if k = true then (e ρ1 S1).bind fun v S2 => (match v.th with
          | .d y => cGo s bd t e ρ (xs.map enc) (acc ++ [y]) S2
          | _ => .no)
        else cGo s bd t e ρ (xs.map enc) acc S1
      | none => .no) = _
    rw [chk_pos hg, h1]
    dsimp only
    rw [h2, bind_ok]
    cases hp : p x with
    | false =>
      rw [if_neg Bool.false_ne_true, cGo_pure p F hg xs acc fun y hy => h y (List.mem_cons_of_mem _ hy)]
      simp [hp]
    | true =>
      obtain ⟨v, h4, h5⟩ := h3 hp
      rw [if_pos rfl, h4, bind_ok, h5]
      dsimp only
      rw [cGo_pure p F hg xs (acc ++ [F x]) fun y hy => h y (List.mem_cons_of_mem _ hy)]
      simp [hp]
theorem comp_pure {src : SI} {t : SB} {e : Sx} {own : List Nat} (xs : List α) (enc : α → PyData) (p : α → Bool) (F : α → PyData) (hs : src ρ S = .ok s S) (hi : s.items = xs.map enc) (hg : GOk S s) (hl : xs.length ≤ sizeLine)
    (h : ∀ x ∈ xs, ∃ ρ1, bd.go (enc x) (wipeE ρ own) = some ρ1 ∧ t ρ1 S = .ok (p x) S ∧ (p x = true → ∃ v, e ρ1 S = .ok v S ∧ v.th = .d (F x))) : evComp src bd t e own ρ S = .ok (.f (.lst ((xs.filter p).map F))) S := by
  show (src ρ S).bind (fun s S1 => if s.items.length ≤ sizeLine then (cGo s bd t e (wipeE ρ own) s.items [] S1).bind fun ds S2 => .ok (Val.f (.lst ds)) S2 else .no) = _
  rw [hs, bind_ok, hi, if_pos (by rw [List.length_map]; exact hl), cGo_pure p F hg xs [] h]
  simp
theorem comp_map {src : SI} {t : SB} {e : Sx} {own : List Nat} (xs : List α) (enc : α → PyData) (F : α → PyData) (hs : src ρ S = .ok s S) (hi : s.items = xs.map enc) (hg : GOk S s) (hl : xs.length ≤ sizeLine)
    (h : ∀ x ∈ xs, ∃ ρ1, bd.go (enc x) (wipeE ρ own) = some ρ1 ∧ t ρ1 S = .ok true S ∧ ∃ v, e ρ1 S = .ok v S ∧ v.th = .d (F x)) : evComp src bd t e own ρ S = .ok (.f (.lst (xs.map F))) S := by
  have z := comp_pure xs enc (fun _ => true) F hs hi hg hl fun x hx => by
    obtain ⟨ρ1, h1, h2, h3⟩ := h x hx
    exact ⟨ρ1, h1, h2, fun _ => h3⟩
  rw [z, List.filter_eq_self.mpr fun _ _ => rfl]
/-! the same, what follows a turn out of sight -/
theorem wp_forK (I : List α → Envi → Sto → Prop) {src : SI} {S1 : Sto} (xs : List α) (enc : α → PyData) {Q : Fw → Sto → Prop} (hs : src ρ S = .ok s S1) (hi : s.items = xs.map enc) (hg : ∀ pre ρ S, I pre ρ S → GOk S s) (h0 : I [] ρ S1)
    (step : ∀ pre x post ρ S, xs = pre ++ x :: post → I pre ρ S → ∃ ρ1, bd.go (enc x) ρ = some ρ1 ∧ ∀ K : Fw → Sto → Prop, (∀ ρ S, I (pre ++ [x]) ρ S → K (.nx ρ) S) → (∀ v S, Q (.rt v) S → K (.rt v) S) → wp (b ρ1 S) K)
    (done : ∀ ρ S, I xs ρ S → Q (.nx ρ) S) : wp (sFo src bd b ρ S) Q :=
  wp_for I xs enc hs hi hg h0 (fun pre x post ρ S e h => by
    obtain ⟨ρ1, h1, h2⟩ := step pre x post ρ S e h
    exact ⟨ρ1, h1, h2 _ (fun _ _ h => h) fun _ _ h => h⟩) done
theorem e_sFo {src : SI} : sFo src bd b ρ S = (src ρ S).bind fun s S1 => forGo s bd b s.items ρ S1 := (rfl)
theorem wp_goK (I : List α → Envi → Sto → Prop) {items : List PyData} (xs : List α) (enc : α → PyData) {Q : Fw → Sto → Prop} (hi : items = xs.map enc) (hg : ∀ pre ρ S, I pre ρ S → GOk S s) (h0 : I [] ρ S)
    (step : ∀ pre x post ρ S, xs = pre ++ x :: post → I pre ρ S → ∃ ρ1, bd.go (enc x) ρ = some ρ1 ∧ ∀ K : Fw → Sto → Prop, (∀ ρ S, I (pre ++ [x]) ρ S → K (.nx ρ) S) → (∀ v S, Q (.rt v) S → K (.rt v) S) → wp (b ρ1 S) K)
    (done : ∀ ρ S, I xs ρ S → Q (.nx ρ) S) : wp (forGo s bd b items ρ S) Q := by
  subst hi
  exact forGo_wp I hg (fun pre x post ρ S e h => by
    obtain ⟨ρ1, h1, h2⟩ := step pre x post ρ S e h
    exact ⟨ρ1, h1, h2 _ (fun _ _ h => h) fun _ _ h => h⟩) done xs [] ρ S rfl h0
theorem wp_forL (I : List α → Envi → Sto → Prop) {src : SI} {S1 : Sto} (xs : List α) (enc : α → PyData) {Q : Fw → Sto → Prop} (hs : src ρ S = .ok s S1) (hi : s.items = xs.map enc) (hg : ∀ pre ρ S, I pre ρ S → GOk S s) (h0 : I [] ρ S1)
    (step : ∀ pre x post ρ S, xs = pre ++ x :: post → I pre ρ S → ∃ ρ1, bd.go (enc x) ρ = some ρ1 ∧ ∀ K : Fw → Sto → Prop, (∀ ρ S, I (pre ++ [x]) ρ S → K (.nx ρ) S) → (∀ ρ S, I (pre ++ [x]) ρ S → K (.ct ρ) S) → (∀ ρ S, Q (.nx ρ) S → K (.bk ρ) S) → (∀ v S, Q (.rt v) S → K (.rt v) S) → wp (b ρ1 S) K)
    (done : ∀ ρ S, I xs ρ S → Q (.nx ρ) S) : wp (sFo src bd b ρ S) Q :=
  wp_for I xs enc hs hi hg h0 (fun pre x post ρ S e h => by
    obtain ⟨ρ1, h1, h2⟩ := step pre x post ρ S e h
    exact ⟨ρ1, h1, h2 _ (fun _ _ h => h) (fun _ _ h => h) (fun _ _ h => h) fun _ _ h => h⟩) done
theorem wp_whileK {c : SB} {b : Ss} {Q : Fw → Sto → Prop} (I : Nat → Envi → Sto → Prop)
    (step : ∀ m ρ S, I m ρ S → ∀ K : Bool → Sto → Prop, (∀ S1, (∀ K2 : Fw → Sto → Prop, (∀ m' ρ2 S2, m' < m → I m' ρ2 S2 → K2 (.nx ρ2) S2) → (∀ v S2, Q (.rt v) S2 → K2 (.rt v) S2) → wp (b ρ S1) K2) → K true S1) → (∀ S1, Q (.nx ρ) S1 → K false S1) → wp (c ρ S) K)
    (n m : Nat) (ρ : Envi) (S : Sto) (h : m < n) (i : I m ρ S) : wp (sWhN c b n ρ S) Q :=
  wp_while I (fun m ρ S h => step m ρ S h _ (fun S1 q => by
    rw [if_pos rfl]
    exact q _ (fun m' ρ2 S2 h1 h2 => ⟨m', h1, h2⟩) fun _ _ h => h) fun S1 q => by
    rw [if_neg Bool.false_ne_true]
    exact q) n m ρ S h i
theorem wp_compK {src : SI} {t : SB} {e : Sx} {own : List Nat} {S1 : Sto} {Q : Val → Sto → Prop} (I : List α → List PyData → Sto → Prop) (xs : List α) (enc : α → PyData) (hs : src ρ S = .ok s S1) (hi : s.items = xs.map enc) (hl : xs.length ≤ sizeLine)
    (hg : ∀ pre acc S, I pre acc S → GOk S s) (h0 : I [] [] S1)
    (step : ∀ pre x post acc S, xs = pre ++ x :: post → I pre acc S → ∃ ρ1, bd.go (enc x) (wipeE ρ own) = some ρ1 ∧ ∀ K : Bool → Sto → Prop,
      (∀ S1, (∀ K2 : Val → Sto → Prop, (∀ v S2 y, v.th = .d y → I (pre ++ [x]) (acc ++ [y]) S2 → K2 v S2) → wp (e ρ1 S1) K2) → K true S1) → (∀ S1, I (pre ++ [x]) acc S1 → K false S1) → wp (t ρ1 S) K)
    (done : ∀ acc S, I xs acc S → Q (.f (.lst acc)) S) : wp (evComp src bd t e own ρ S) Q :=
  wp_comp I xs enc hs hi hl hg h0 (fun pre x post acc S eq h => by
    obtain ⟨ρ1, h1, h2⟩ := step pre x post acc S eq h
    refine ⟨ρ1, h1, h2 _ (fun S1 q => ?_) fun S1 q => ?_⟩
    · rw [if_pos rfl]
      exact q _ fun v S2 y h3 h4 => ⟨y, h3, h4⟩
    · rw [if_neg Bool.false_ne_true]
      exact q) done
end
/-! ### one statement at a time: what follows is out of sight -/
section
variable {f g : Ss} {ρ : Envi} {S : Sto} {Q : Fw → Sto → Prop}
theorem wp_seq (h : ∀ K : Fw → Sto → Prop, (∀ ρ1 S1, wp (g ρ1 S1) Q → K (.nx ρ1) S1) → (∀ v S1, Q (.rt v) S1 → K (.rt v) S1) → wp (f ρ S) K) : wp (sSeq f g ρ S) Q := by
  rw [e_sSeq, wp_bind]
  refine h _ ?_ ?_
  · exact fun _ _ h => h
  · exact fun _ _ h => by rw [wp_ok]; exact h
theorem wp_seqN (h : ∀ K : Fw → Sto → Prop, (∀ ρ1 S1, wp (g ρ1 S1) Q → K (.nx ρ1) S1) → wp (f ρ S) K) : wp (sSeq f g ρ S) Q := by
  rw [e_sSeq, wp_bind]
  refine h _ ?_
  exact fun _ _ h => h
theorem wp_seqL (h : ∀ K : Fw → Sto → Prop, (∀ ρ1 S1, wp (g ρ1 S1) Q → K (.nx ρ1) S1) → (∀ v S1, Q (.rt v) S1 → K (.rt v) S1) → (∀ v S1, Q (.bk v) S1 → K (.bk v) S1) → (∀ v S1, Q (.ct v) S1 → K (.ct v) S1) → wp (f ρ S) K) : wp (sSeq f g ρ S) Q := by
  rw [e_sSeq, wp_bind]
  refine h _ ?_ ?_ ?_ ?_
  · exact fun _ _ h => h
  · exact fun _ _ h => by rw [wp_ok]; exact h
  · exact fun _ _ h => by rw [wp_ok]; exact h
  · exact fun _ _ h => by rw [wp_ok]; exact h
end
/-! ### defs -/
section
variable {np N : Nat} {body : Ss} {vs : List Val} {S : Sto}
theorem wp_fn {Q : Val → Sto → Prop} (hl : vs.length = np) (h : wp (body (vs.map some ++ List.replicate (N - np) none) S) fun w S1 => match w with
    | .nx _ => Q (.d .none) (S1.take S.length)
    | .rt v => wp (out S.length S1 v) Q
    | _ => False) : wp (mkFn np N body vs S) Q := by
  unfold mkFn
  rw [if_pos hl, wp_bind]
  refine h.mono fun w S1 q => ?_
  cases w with
  | nx ρ => rw [wp_ok]; exact q
  | rt v => exact q
  | bk ρ => exact q.elim
  | ct ρ => exact q.elim
theorem fn_eq {v : Val} {S' S1 : Sto} (hl : vs.length = np) (h : body (vs.map some ++ List.replicate (N - np) none) S = .ok (.rt v) S1) (ho : ∀ r : Res Val, out S.length S1 v = r → r = .ok v S') : mkFn np N body vs S = .ok v S' := by
  unfold mkFn
  rw [if_pos hl, h]
  exact ho _ rfl
@[simp] theorem out_d {n : Nat} {x : PyData} : out n S (.d x) = .ok (.d x) (S.take n) := (rfl)
@[simp] theorem out_f {n : Nat} {x : Cell} (h : x.lt n = true) : out n S (.f x) = .ok (.f x) (S.take n) := if_pos h
theorem wp_out_d {n : Nat} {x : PyData} {Q : Val → Sto → Prop} (h : Q (.d x) (S.take n)) : wp (out n S (.d x)) Q := by rw [out_d, wp_ok]; exact h
theorem wp_out_f {n : Nat} {x : Cell} {Q : Val → Sto → Prop} (h : Q (.f x) (S.take n)) (hl : x.lt n = true := by rfl) : wp (out n S (.f x)) Q := by rw [out_f hl, wp_ok]; exact h
theorem out_c {n j : Nat} {k : Cell} (h : ¬ j < n) (e : S[j]? = some k) (hl : k.lt n = true := by rfl) : out n S (.c j) = .ok (.f k) (S.take n) := by
  show (if j < n then _ else match S[j]? with | some k => _ | none => _) = _
  rw [if_neg h, e]
  exact if_pos hl
end
/-! ### the store: what stood before, and a def's own cells -/
section
variable {S L : Sto} {k : Cell} {i : Nat}
@[simp] theorem st_get : (S ++ L)[S.length + i]? = L[i]? := by rw [List.getElem?_append_right (Nat.le_add_right _ _), Nat.add_sub_cancel_left]
@[simp] theorem st_get0 : (S ++ k :: L)[S.length]? = some k := by simp
@[simp] theorem st_set : (S ++ L).set (S.length + i) k = S ++ L.set i k := by simp
@[simp] theorem st_set0 {k' : Cell} : (S ++ k' :: L).set S.length k = S ++ k :: L := by simp
@[simp] theorem st_take : (S ++ L).take S.length = S := by simp
end
end MV
set_option Elab.async false
set_option linter.all false
set_option maxRecDepth 100000
set_option maxHeartbeats 1000000
/-! Data of one form: what the operators say of them. -/
namespace MV
open PySem PySem.Spec PyProof.Rows L2
/-! ### forms -/
structure Enc {α : Type} (enc : α → PyData) (n : Nat) : Prop where
  eqv : ∀ a b, PyData.eqv (enc a) (enc b) = true ↔ a = b
  lay : ∀ a, (enc a).canLay0 = true
  dep : ∀ a, (enc a).depth ≤ n
section
variable {α β : Type} {enc : α → PyData} {en2 : β → PyData} {n m : Nat}
theorem eqv_map (h : ∀ a b, PyData.eqv (enc a) (enc b) = true ↔ a = b) : ∀ xs ys : List α, PyData.eqvAll (xs.map enc) (ys.map enc) = true ↔ xs = ys
  | [], [] => by simp [PyData.eqvAll]
  | [], _ :: _ => by simp [PyData.eqvAll]
  | _ :: _, [] => by simp [PyData.eqvAll]
  | x :: xs, y :: ys => by
    show PyData.eqvAll (enc x :: xs.map enc) (enc y :: ys.map enc) = true ↔ _
    rw [PyData.eqvAll, Bool.and_eq_true, h, eqv_map h xs ys, List.cons.injEq]
theorem lay_map (h : ∀ a, (enc a).canLay0 = true) : ∀ xs : List α, PyData.canLayAll0 (xs.map enc) = true
  | [] => by simp [PyData.canLayAll0]
  | x :: xs => by
    show PyData.canLayAll0 (enc x :: xs.map enc) = true
    rw [PyData.canLayAll0, h, lay_map h xs]; rfl
theorem dep_map (h : ∀ a, (enc a).depth ≤ n) : ∀ xs : List α, PyData.depthAll (xs.map enc) ≤ n
  | [] => by simp [PyData.depthAll]
  | x :: xs => by
    show PyData.depthAll (enc x :: xs.map enc) ≤ n
    rw [PyData.depthAll]
    exact Nat.max_le.mpr ⟨h x, dep_map h xs⟩
theorem encInt : Enc PyData.int 0 := ⟨fun a b => by simp [PyData.eqv], fun a => by simp [PyData.canLay0], fun a => by simp [PyData.depth]⟩
theorem encBool : Enc PyData.bool 0 := ⟨fun a b => by simp [PyData.eqv], fun a => by simp [PyData.canLay0], fun a => by simp [PyData.depth]⟩
theorem Enc.tup (h : Enc enc n) : Enc (fun xs : List α => PyData.tuple (xs.map enc)) (n + 1) := ⟨fun a b => by rw [PyData.eqv]; exact eqv_map h.eqv a b, fun a => by rw [PyData.canLay0]; exact lay_map h.lay a, fun a => by rw [PyData.depth]; have := dep_map h.dep a; omega⟩
theorem Enc.lst (h : Enc enc n) : Enc (fun xs : List α => PyData.list (xs.map enc)) (n + 1) := ⟨fun a b => by rw [PyData.eqv]; exact eqv_map h.eqv a b, fun a => by rw [PyData.canLay0]; exact lay_map h.lay a, fun a => by rw [PyData.depth]; have := dep_map h.dep a; omega⟩
theorem Enc.pair (h : Enc enc n) (k : Enc en2 m) : Enc (fun p : α × β => PyData.tuple [enc p.1, en2 p.2]) (max n m + 1) := ⟨fun a b => by
    rw [PyData.eqv, PyData.eqvAll, PyData.eqvAll, PyData.eqvAll, Bool.and_true, Bool.and_eq_true, h.eqv, k.eqv, Prod.ext_iff], fun a => by
    rw [PyData.canLay0, PyData.canLayAll0, PyData.canLayAll0, PyData.canLayAll0, h.lay, k.lay]; rfl, fun a => by
    rw [PyData.depth, PyData.depthAll, PyData.depthAll, PyData.depthAll]
    have := h.dep a.1
    have := k.dep a.2
    omega⟩
theorem Enc.comp {γ : Type} {f : γ → α} (h : Enc enc n) (hf : ∀ a b, f a = f b → a = b) : Enc (fun c => enc (f c)) n := ⟨fun a b => by rw [h.eqv]; exact ⟨hf a b, fun e => by rw [e]⟩, fun a => h.lay _, fun a => h.dep _⟩
theorem Enc.shaped (h : Enc enc n) (hn : n ≤ 64) (a : α) : SeqAt.shaped (enc a) = true := by
  unfold SeqAt.shaped
  rw [h.lay, Bool.true_and]
  exact decide_eq_true (Nat.le_trans (h.dep a) hn)
theorem Enc.inj (h : Enc enc n) {a b : α} (e : enc a = enc b) : a = b := (h.eqv a b).mp (by rw [e]; exact (h.eqv b b).mpr rfl)
theorem Enc.eqvD (h : Enc enc n) (a b : α) [Decidable (a = b)] : PyData.eqv (enc a) (enc b) = decide (a = b) := by
  rw [Bool.eq_iff_iff, h.eqv, decide_eq_true_iff]
theorem Enc.any (h : Enc enc n) (a : α) (xs : List α) [Decidable (a ∈ xs)] : ((xs.map enc).any fun z => PyData.eqv z (enc a)) = decide (a ∈ xs) := by
  rw [Bool.eq_iff_iff, List.any_eq_true, decide_eq_true_iff]
  constructor
  · rintro ⟨z, hz, e⟩
    obtain ⟨b, hb, rfl⟩ := List.mem_map.mp hz
    rw [(h.eqv b a).mp e] at hb; exact hb
  · exact fun m => ⟨enc a, List.mem_map_of_mem m, (h.eqv a a).mpr rfl⟩
variable {S : Sto}
theorem Enc.eq (h : Enc enc n) (a b : α) [Decidable (a = b)] (hn : n ≤ 64 := by decide) : gEq (.d (enc a)) (.d (enc b)) S = .ok (.d (.bool (decide (a = b)))) S := by
  rw [o_eq (x := enc a) (y := enc b) rfl rfl (h.shaped hn a) (h.shaped hn b), h.eqvD]
theorem Enc.ne (h : Enc enc n) (a b : α) [Decidable (a = b)] (hn : n ≤ 64 := by decide) : gNe (.d (enc a)) (.d (enc b)) S = .ok (.d (.bool (!decide (a = b)))) S := by
  rw [o_ne (x := enc a) (y := enc b) rfl rfl (h.shaped hn a) (h.shaped hn b), h.eqvD]
theorem Enc.inT (h : Enc enc n) (a : α) (xs : List α) [Decidable (a ∈ xs)] (hn : n + 1 ≤ 64 := by decide) : gIn (.d (enc a)) (.d (.tuple (xs.map enc))) S = .ok (.d (.bool (decide (a ∈ xs)))) S := by
  unfold gIn
  rw [o_inT (fun i => .inr trivial) (h.shaped (by omega) a) (h.lst.shaped hn xs), h.any]
theorem Enc.notInT (h : Enc enc n) (a : α) (xs : List α) [Decidable (a ∈ xs)] (hn : n + 1 ≤ 64 := by decide) : gNotIn (.d (enc a)) (.d (.tuple (xs.map enc))) S = .ok (.d (.bool (!decide (a ∈ xs)))) S := by
  unfold gNotIn
  rw [o_inT (fun i => .inr trivial) (h.shaped (by omega) a) (h.lst.shaped hn xs), h.any]
theorem Enc.inC (h : Enc enc n) (a : α) (xs : List α) [Decidable (a ∈ xs)] {i : Nat} (e : S[i]? = some (.lst (xs.map enc))) (hn : n + 1 ≤ 64 := by decide) : gIn (.d (enc a)) (.c i) S = .ok (.d (.bool (decide (a ∈ xs)))) S := by
  unfold gIn
  rw [o_inL rfl e (h.shaped (by omega) a) (h.lst.shaped hn xs), h.any]
theorem Enc.notInC (h : Enc enc n) (a : α) (xs : List α) [Decidable (a ∈ xs)] {i : Nat} (e : S[i]? = some (.lst (xs.map enc))) (hn : n + 1 ≤ 64 := by decide) : gNotIn (.d (enc a)) (.c i) S = .ok (.d (.bool (!decide (a ∈ xs)))) S := by
  unfold gNotIn
  rw [o_inL rfl e (h.shaped (by omega) a) (h.lst.shaped hn xs), h.any]
end
/-! ### webs -/
abbrev dI (ns : List Int) : List PyData := ns.map PyData.int
def pP (p : Int × Int) : PyData := .tuple [.int p.1, .int p.2]
abbrev dP (ps : List (Int × Int)) : List PyData := ps.map pP
abbrev Web := List Int × List (Int × Int)
def pT (ns : List Int) : PyData := .tuple (ns.map .int)
def pTs (ps : List (Int × Int)) : PyData := .tuple (ps.map pP)
def pW (W : Web) : PyData := .tuple [pT W.1, pTs W.2]
theorem encP : Enc pP 1 := encInt.pair encInt
theorem encT : Enc pT 1 := encInt.tup
theorem encTs : Enc pTs 2 := encP.tup
theorem encW : Enc pW 3 := encT.pair encTs
/-! ### built-ins -/
section
variable {S : Sto} {i j : Int} {ds es : List PyData} {n : Nat} {ns : List Int} {bs : List Bool} {b : Bool}
@[simp] theorem g_lenT : g1 fLen [.d (.tuple ds)] S = .ok (.d (.int ds.length)) S := (rfl)
@[simp] theorem g_lenL : g1 fLen [.d (.list ds)] S = .ok (.d (.int ds.length)) S := (rfl)
@[simp] theorem g_lenZ : g1 fLen [.z ds] S = .ok (.d (.int ds.length)) S := (rfl)
theorem g1_of {f : Sto → Val → Option PyData} {v : Val} {d : PyData} (h : f S v = some d) : g1 f [v] S = .ok (.d d) S := by
  unfold g1
  dsimp only
  rw [h]
theorem g_lenC (h : S[n]? = some (.lst ds)) : g1 fLen [.c n] S = .ok (.d (.int ds.length)) S := g1_of (by
  unfold fLen
  dsimp only
  rw [asM_c, seq_c, h])
theorem g_lenD {ps : List (PyData × PyData)} (h : S[n]? = some (.dic ps)) : g1 fLen [.c n] S = .ok (.d (.int ps.length)) S := g1_of (by
  unfold fLen
  dsimp only
  rw [asM_c, h])
@[simp] theorem g_tupT : g1 fTuple [.d (.tuple ds)] S = .ok (.d (.tuple ds)) S := (rfl)
@[simp] theorem g_tupL : g1 fTuple [.d (.list ds)] S = .ok (.d (.tuple ds)) S := (rfl)
@[simp] theorem g_tupZ : g1 fTuple [.z ds] S = .ok (.d (.tuple ds)) S := (rfl)
theorem g_tupC (h : S[n]? = some (.lst ds)) : g1 fTuple [.c n] S = .ok (.d (.tuple ds)) S := g1_of (by
  unfold fTuple
  rw [seq_c, h])
@[simp] theorem g_listT : gList [.d (.tuple ds)] S = .ok (.f (.lst ds)) S := (rfl)
@[simp] theorem g_listL : gList [.d (.list ds)] S = .ok (.f (.lst ds)) S := (rfl)
@[simp] theorem g_intB : g1 fInt [.d (.bool b)] S = .ok (.d (.int (if b = true then 1 else 0))) S := (rfl)
@[simp] theorem g_intI : g1 fInt [.d (.int i)] S = .ok (.d (.int i)) S := (rfl)
@[simp] theorem g_abs : g1 fAbs [.d (.int i)] S = .ok (.d (.int (if i < 0 then -i else i))) S := (rfl)
@[simp] theorem g_min2 : gMin [.d (.int i), .d (.int j)] S = .ok (.d (.int (if j < i then j else i))) S := (rfl)
@[simp] theorem g_max2 : gMax [.d (.int i), .d (.int j)] S = .ok (.d (.int (if j > i then j else i))) S := (rfl)
theorem g_all (h : ds = bs.map .bool) : g1 fAll [.d (.list ds)] S = .ok (.d (.bool (bs.all id))) S := g1_of (by
  subst h
  show (bolsOf (bs.map .bool)).map _ = _
  rw [bolsOf_map]; rfl)
theorem g_any (h : ds = bs.map .bool) : g1 fAny [.d (.list ds)] S = .ok (.d (.bool (bs.any id))) S := g1_of (by
  subst h
  show (bolsOf (bs.map .bool)).map _ = _
  rw [bolsOf_map]; rfl)
theorem o_pow (h : 0 ≤ j ∧ (Builtin.Int.intBits i : Int) * j ≤ 2 ^ 27) : gPow (.d (.int i)) (.d (.int j)) S = .ok (.d (.int (i ^ j.toNat))) S := by
  show (if decide _ = true then _ else _) = _
  rw [decide_eq_true h, if_pos rfl]
@[simp] theorem e_range1 (h1 : -4611686018427387904 ≤ j) (h2 : j < 4611686018427387904) : gRange1 [.d (.int j)] = some ⟨iota 0 j.toNat, []⟩ := if_pos ⟨by omega, by omega⟩
@[simp] theorem e_range2 (h1 : -4611686018427387904 ≤ j) (h2 : j < 4611686018427387904) (h3 : -4611686018427387904 ≤ i) (h4 : i < 4611686018427387904) : gRange2 [.d (.int i), .d (.int j)] = some ⟨iota i (j - i).toNat, []⟩ := if_pos ⟨by omega, by omega, by omega, by omega⟩
theorem iota_map (lo : Int) (n : Nat) : iota lo n = (List.range n).map fun (i : Nat) => PyData.int (lo + i) := rfl
/-! sorted -/
def isort (ns : List Int) : List Int := ns.mergeSort fun a b => decide (a ≤ b)
def pleB (p q : Int × Int) : Bool := decide (p.1 < q.1 ∨ (p.1 = q.1 ∧ p.2 ≤ q.2))
def psort (ps : List (Int × Int)) : List (Int × Int) := ps.mergeSort pleB
theorem sortD_map {α : Type} {enc : α → PyData} {le : α → α → Bool} (h : ∀ a b, PySem.W.dataLe false id (enc a) (enc b) = le a b) (xs : List α) : sortD (xs.map enc) = (xs.mergeSort le).map enc := by
  unfold sortD
  rw [List.map_mergeSort]
  exact fun a _ b _ => (h a b).symm
theorem sorted_of {α : Type} {enc : α → PyData} {le : α → α → Bool} {k : Nat} (E : Enc enc k) (hk : k ≤ 64) (h : ∀ a b, PySem.W.dataLe false id (enc a) (enc b) = le a b) (xs : List α) (al : ∀ a b, PySem.W.alike (enc a) (enc b) = true) (so : PySem.W.Sortable (xs.map enc)) (hl : xs.length ≤ sizeLine)
    {v : Val} {t : Bool} {g : List (Nat × List PyData)} (hv : seqOf S v = some (t, xs.map enc, g)) : gSorted [v] S = .ok (.f (.lst ((xs.mergeSort le).map enc))) S := by
  unfold gSorted
  dsimp only
  rw [hv]
  dsimp only
  rw [if_pos, sortD_map h]
  refine ⟨.of al, so, by rw [List.length_map]; exact hl, fun d hd => ?_⟩
  obtain ⟨a, _, rfl⟩ := List.mem_map.mp hd
  exact E.shaped hk a
theorem sorted_int {v : Val} {t : Bool} {g : List (Nat × List PyData)} (hv : seqOf S v = some (t, dI ns, g)) (hl : ns.length ≤ sizeLine) : gSorted [v] S = .ok (.f (.lst (dI (isort ns)))) S :=
  sorted_of encInt (by decide) (le := fun a b => decide (a ≤ b)) (fun a b => congrFun (congrFun (PySem.W.dataLe_int (β := Int) id) a) b) ns (fun a b => by simp [PySem.W.alike]) (.others fun b => ⟨by simp, by simp⟩) hl hv
theorem sorted_pair {ps : List (Int × Int)} {v : Val} {t : Bool} {g : List (Nat × List PyData)} (hv : seqOf S v = some (t, dP ps, g)) (hl : ps.length ≤ sizeLine) : gSorted [v] S = .ok (.f (.lst (dP (psort ps)))) S :=
  sorted_of encP (by decide) (le := pleB) (fun a b => congrFun (congrFun (PySem.W.dataLe_ii (β := Int × Int) (·.1) (·.2)) a) b) ps (fun a b => by simp [pP, PySem.W.alike, PySem.W.alikeAll]) (.tuples fun b => ⟨_, _, rfl⟩) hl hv
theorem isort_perm (ns : List Int) : (isort ns).Perm ns := List.mergeSort_perm _ _
theorem psort_perm (ns : List (Int × Int)) : (psort ns).Perm ns := List.mergeSort_perm _ _
theorem isort_le (ns : List Int) : (isort ns).Pairwise (· ≤ ·) := by
  have h := List.pairwise_mergeSort (le := fun (a b : Int) => decide (a ≤ b)) (fun a b c h1 h2 => by simp at h1 h2 ⊢; omega) (fun a b => by simp; omega) ns
  exact h.imp fun h => by simpa using h
theorem ple_trans (a b c : Int × Int) (h1 : pleB a b = true) (h2 : pleB b c = true) : pleB a c = true := by
  unfold pleB at *
  simp only [decide_eq_true_eq] at *
  omega
theorem ple_total (a b : Int × Int) : (pleB a b || pleB b a) = true := by
  unfold pleB
  simp only [Bool.or_eq_true, decide_eq_true_eq]
  omega
theorem psort_le (ns : List (Int × Int)) : (psort ns).Pairwise (fun a b => pleB a b = true) := List.pairwise_mergeSort ple_trans ple_total ns
@[simp] theorem mem_isort {a : Int} : a ∈ isort ns ↔ a ∈ ns := (isort_perm ns).mem_iff
@[simp] theorem mem_psort {a : Int × Int} {ps : List (Int × Int)} : a ∈ psort ps ↔ a ∈ ps := (psort_perm ps).mem_iff
@[simp] theorem isort_length : (isort ns).length = ns.length := (isort_perm ns).length_eq
@[simp] theorem psort_length {ps : List (Int × Int)} : (psort ps).length = ps.length := (psort_perm ps).length_eq
/-! rising -/
abbrev Rise (ns : List Int) : Prop := ns.Pairwise (· < ·)
def pLt (p q : Int × Int) : Prop := p.1 < q.1 ∨ (p.1 = q.1 ∧ p.2 < q.2)
abbrev RiseP (ps : List (Int × Int)) : Prop := ps.Pairwise pLt
theorem rise_ext {xs ys : List Int} (hx : Rise xs) (hy : Rise ys) (h : ∀ a, a ∈ xs ↔ a ∈ ys) : xs = ys := by
  refine List.Perm.eq_of_pairwise (le := (· < ·)) (fun a b _ _ h1 h2 => by omega) hx hy ?_
  exact (List.perm_ext_iff_of_nodup (hx.imp fun h => by omega) (hy.imp fun h => by omega)).mpr h
theorem risep_ext {xs ys : List (Int × Int)} (hx : RiseP xs) (hy : RiseP ys) (h : ∀ a, a ∈ xs ↔ a ∈ ys) : xs = ys := by
  refine List.Perm.eq_of_pairwise (le := pLt) (fun a b _ _ h1 h2 => by unfold pLt at h1 h2; omega) hx hy ?_
  exact (List.perm_ext_iff_of_nodup (hx.imp fun h e => by subst e; unfold pLt at h; omega) (hy.imp fun h e => by subst e; unfold pLt at h; omega)).mpr h
theorem isort_rise (h : ns.Nodup) : Rise (isort ns) := by
  have h1 := isort_le ns
  have h2 : (isort ns).Nodup := (isort_perm ns).nodup_iff.mpr h
  exact (h1.and h2).imp fun ⟨h, h'⟩ => by omega
theorem psort_rise {ps : List (Int × Int)} (h : ps.Nodup) : RiseP (psort ps) := by
  have h1 := psort_le ps
  have h2 : (psort ps).Nodup := (psort_perm ps).nodup_iff.mpr h
  refine (h1.and h2).imp fun {a b} ⟨h, h'⟩ => ?_
  unfold pleB at h
  unfold pLt
  simp only [decide_eq_true_eq] at h
  rcases h with h | h
  · exact .inl h
  · refine .inr ⟨h.1, ?_⟩
    have : a.2 ≠ b.2 := fun e => h' (Prod.ext h.1 e)
    omega
theorem Rise.nodup (h : Rise ns) : ns.Nodup := h.imp fun h => by omega
theorem isort_of_rise (h : Rise ns) : isort ns = ns := rise_ext (isort_rise h.nodup) h fun a => mem_isort
theorem RiseP.nodup {ps : List (Int × Int)} (h : RiseP ps) : ps.Nodup := h.imp fun h e => by subst e; unfold pLt at h; omega
theorem psort_of_rise {ps : List (Int × Int)} (h : RiseP ps) : psort ps = ps := risep_ext (psort_rise h.nodup) h fun a => mem_psort
end
/-! ### what a web is -/
structure IsWeb (W : Web) : Prop where
  rp : Rise W.1
  rt : RiseP W.2
  lo : ∀ a ∈ W.1, 0 ≤ a ∧ a ≤ 99
  lt : ∀ t ∈ W.2, t.1 < t.2 ∧ t.1 ∈ W.1 ∧ t.2 ∈ W.1
/-! ### stores into cells, cuts -/
section
variable {S : Sto} {n : Nat} {ds : List PyData}
theorem put_c {k : Int} {j : Nat} {y : PyData} (h : S[n]? = some (.lst ds)) (hk : ixN ds.length k = some j) : gPut (.c n) (.d (.int k)) (.d y) S = some (S.set n (.lst (ds.set j y))) := by
  unfold gPut
  dsimp only
  rw [h]
  dsimp only
  rw [hk]
theorem put_dic {ps : List (PyData × PyData)} {z y : PyData} {k : Key} (h : S[n]? = some (.dic ps)) (hz : kOf z = some k) (hl : ps.length < sizeLine) : gPut (.c n) (.d z) (.d y) S = some (S.set n (.dic (putD ps k y))) := by
  unfold gPut
  dsimp only
  rw [h]
  dsimp only
  rw [hz]
  dsimp only
  rw [if_pos hl]
theorem app_c {y : PyData} (h : S[n]? = some (.lst ds)) (hl : ds.length < sizeLine) : gAppend (.c n) [.d y] S = .ok (.d .none) (S.set n (.lst (ds ++ [y]))) := by
  unfold gAppend cellL
  dsimp only
  rw [h]
  dsimp only
  rw [if_pos hl]
theorem ext_c {w : Val} {es : List PyData} (h : S[n]? = some (.lst ds)) (hw : asL S w = some es) (hl : ds.length + es.length ≤ sizeLine) : gExtend (.c n) [w] S = .ok (.d .none) (S.set n (.lst (ds ++ es))) := by
  unfold gExtend cellL
  dsimp only
  rw [h]
  dsimp only
  rw [hw]
  dsimp only
  rw [if_pos hl]
theorem ty_list (h : S[n]? = some (.lst ds)) : tyB "list" S (.c n) = true := by
  unfold tyB
  rw [asL_c, h]
  rfl
theorem ty_dict {ps : List (PyData × PyData)} (h : S[n]? = some (.dic ps)) : tyB "dict" S (.c n) = true := by
  unfold tyB
  rw [asM_c, h]
  simp
theorem cut_to {k : Int} (h : 0 ≤ k) : cutD ds none (some k) = ds.take k.toNat := by
  unfold cutD
  rw [HT.sIx_none]
  show (ds.drop 0).take ((if k < 0 then _ else min k.toNat ds.length) - 0) = _
  rw [if_neg (by omega), List.drop_zero, Nat.sub_zero]
  rcases Nat.le_total k.toNat ds.length with q | q
  · rw [Nat.min_eq_left q]
  · rw [Nat.min_eq_right q, List.take_length, List.take_of_length_le q]
theorem cut_from {k : Int} (h : 0 ≤ k) : cutD ds (some k) none = ds.drop k.toNat := by
  unfold cutD
  rw [HT.sIx_none]
  show (ds.drop (if k < 0 then _ else min k.toNat ds.length)).take (ds.length - (if k < 0 then _ else min k.toNat ds.length)) = _
  rw [if_neg (by omega)]
  rcases Nat.le_total k.toNat ds.length with q | q
  · rw [Nat.min_eq_left q, List.take_of_length_le (by simp)]
  · rw [Nat.min_eq_right q, List.drop_length, List.drop_of_length_le q]; simp
theorem at_nat {α : Type} {xs : List α} {i : Int} {x : α} (h : 0 ≤ i) (e : xs[i.toNat]? = some x) : atI xs i = some x := by
  have hl := (List.getElem?_eq_some_iff.mp e).1
  unfold atI ixN
  rw [if_pos h, if_pos (by omega)]
  exact e
theorem st_upd {k k' : Cell} (h : S[n]? = some k) : (S.set n k')[n]? = some k' := by
  rw [List.getElem?_set_self (List.getElem?_eq_some_iff.mp h).1]
theorem st_self {k : Cell} (h : S[n]? = some k) : S.set n k = S := by
  obtain ⟨h1, h2⟩ := List.getElem?_eq_some_iff.mp h
  rw [← h2, List.set_getElem_self]
theorem st_lt {k : Cell} (h : S[n]? = some k) : n < S.length := (List.getElem?_eq_some_iff.mp h).1
end
/-! a cell of three -/
section
variable {S : Sto} {n : Nat} {x y z w : PyData}
@[simp] theorem at_0 {r : List PyData} : atI (x :: r) 0 = some x := by
  unfold atI ixN
  rw [if_pos (by decide), if_pos (by simp only [List.length_cons]; omega)]; rfl
@[simp] theorem at_1 {r : List PyData} : atI (x :: y :: r) 1 = some y := by
  unfold atI ixN
  rw [if_pos (by decide), if_pos (by simp only [List.length_cons]; omega)]; rfl
@[simp] theorem at_2 {r : List PyData} : atI (x :: y :: z :: r) 2 = some z := by
  unfold atI ixN
  rw [if_pos (by decide), if_pos (by simp only [List.length_cons]; omega)]; rfl
theorem put3_0 (h : S[n]? = some (.lst [x, y, z])) : gPut (.c n) (.d (.int 0)) (.d w) S = some (S.set n (.lst [w, y, z])) := put_c (j := 0) h rfl
theorem put3_1 (h : S[n]? = some (.lst [x, y, z])) : gPut (.c n) (.d (.int 1)) (.d w) S = some (S.set n (.lst [x, w, z])) := put_c (j := 1) h rfl
theorem put3_2 (h : S[n]? = some (.lst [x, y, z])) : gPut (.c n) (.d (.int 2)) (.d w) S = some (S.set n (.lst [x, y, w])) := put_c (j := 2) h rfl
theorem log_lt {m : Int} (hm : 0 < m) (hm2 : m < 2 ^ 60) : m.natAbs.log2 < 9000 := by
  have h3 : m.natAbs.log2 < 60 := (Nat.log2_lt (by omega)).mpr (by omega)
  omega
theorem mod_in (x m : Int) (h : 0 < m) : 0 ≤ x % m ∧ x % m < m := ⟨Int.emod_nonneg _ (by omega), Int.emod_lt_of_pos _ h⟩
end
/-! a list that is written, at an open place; a cell among a def's own -/
theorem at_ex {xs : List Int} {r : Int} (h0 : 0 ≤ r) (h1 : r < xs.length) : ∃ y ∈ xs, atI (dI xs) r = some (.int y) := by
  have h : r.toNat < xs.length := by omega
  exact ⟨xs[r.toNat], List.getElem_mem h, at_nat h0 (by rw [List.getElem?_map, List.getElem?_eq_getElem h]; rfl)⟩
section
variable {S L : Sto} {n : Nat} {x : Cell}
@[simp] theorem st_take2 : ((S.set n x) ++ L).take S.length = S.set n x := List.take_left' (by simp)
@[simp] theorem st_take3 : (S.set n x).take S.length = S.set n x := List.take_of_length_le (by simp)
theorem st_own (h : n < S.length) : ((S.set n x) ++ L)[n]? = some x := by
  rw [List.getElem?_append_left (by simpa using h), List.getElem?_set_self h]
theorem st_loc {k : Cell} : ((S.set n x) ++ k :: L)[S.length]? = some k := by
  rw [List.getElem?_append_right (by simp)]; simp
theorem st_loc1 {k k1 : Cell} : ((S.set n x) ++ k1 :: k :: L)[S.length + 1]? = some k := by
  rw [List.getElem?_append_right (by simp)]; simp
theorem st_set_own {y : Cell} (h : n < S.length) : ((S.set n x) ++ L).set n y = (S.set n y) ++ L := by
  rw [List.set_append_left _ _ (by simpa using h), List.set_set]
theorem st_set_loc {k y : Cell} : ((S.set n x) ++ k :: L).set S.length y = (S.set n x) ++ y :: L := by
  rw [List.set_append_right _ _ (by simp)]; simp
theorem st_set_loc1 {k y k1 : Cell} : ((S.set n x) ++ k1 :: k :: L).set (S.length + 1) y = (S.set n x) ++ k1 :: y :: L := by
  rw [List.set_append_right _ _ (by simp)]; simp
end
/-! webs, rows of numbers, of pairs: read -/
section
variable {S : Sto} {W : Web} {ns : List Int} {ps : List (Int × Int)} {p : Int × Int} {ρ : Envi} {bs : List Bnd}
@[simp] theorem ix_W0 : gIx (.d (pW W)) (.d (.int 0)) S = .ok (.d (pT W.1)) S := (rfl)
@[simp] theorem ix_W1 : gIx (.d (pW W)) (.d (.int 1)) S = .ok (.d (pTs W.2)) S := (rfl)
@[simp] theorem ix_P0 : gIx (.d (pP p)) (.d (.int 0)) S = .ok (.d (.int p.1)) S := (rfl)
@[simp] theorem ix_P1 : gIx (.d (pP p)) (.d (.int 1)) S = .ok (.d (.int p.2)) S := (rfl)
@[simp] theorem seq_T : seqOf S (.d (pT ns)) = some (true, dI ns, []) := (rfl)
@[simp] theorem seq_Ts : seqOf S (.d (pTs ps)) = some (true, dP ps, []) := (rfl)
@[simp] theorem seq_W : seqOf S (.d (pW W)) = some (true, [pT W.1, pTs W.2], []) := (rfl)
@[simp] theorem seq_P : seqOf S (.d (pP p)) = some (true, [.int p.1, .int p.2], []) := (rfl)
@[simp] theorem len_T : g1 fLen [.d (pT ns)] S = .ok (.d (.int ns.length)) S := by show g1 fLen [.d (.tuple (dI ns))] S = _; simp
@[simp] theorem len_Ts : g1 fLen [.d (pTs ps)] S = .ok (.d (.int ps.length)) S := by show g1 fLen [.d (.tuple (dP ps))] S = _; simp
@[simp] theorem len_P : g1 fLen [.d (pP p)] S = .ok (.d (.int 2)) S := (rfl)
@[simp] theorem len_W : g1 fLen [.d (pW W)] S = .ok (.d (.int 2)) S := (rfl)
@[simp] theorem list_T : gList [.d (pT ns)] S = .ok (.f (.lst (dI ns))) S := (rfl)
@[simp] theorem tup_T : g1 fTuple [.d (pT ns)] S = .ok (.d (pT ns)) S := (rfl)
@[simp] theorem tup_I : g1 fTuple [.d (.list (dI ns))] S = .ok (.d (pT ns)) S := (rfl)
@[simp] theorem tup_Ps : g1 fTuple [.d (.list (dP ps))] S = .ok (.d (pTs ps)) S := (rfl)
theorem fold_T : PyData.tuple (dI ns) = pT ns := rfl
theorem fold_Ts : PyData.tuple (dP ps) = pTs ps := rfl
theorem fold_W {ns : List Int} : PyData.tuple [pT ns, pTs ps] = pW (ns, ps) := rfl
theorem fold_P {a b : Int} : PyData.tuple [.int a, .int b] = pP (a, b) := rfl
@[simp] theorem go_P : (bTup bs).go (pP p) ρ = goL bs [.int p.1, .int p.2] ρ := (rfl)
@[simp] theorem go_W : (bTup bs).go (pW W) ρ = goL bs [pT W.1, pTs W.2] ρ := (rfl)
end
/-! ### texts of things -/
theorem repr_of {S : Sto} {v : Val} {d : PyData} (h : asD S v = some d) (c : d.canLay0 = true ∧ d.showable = true ∧ d.shown.length ≤ sizeLine ∧ d.depth ≤ 64) : gRepr [v] S = .ok (.d (.str d.shown)) S := by
  unfold gRepr
  dsimp only
  rw [h]
  dsimp only
  rw [if_pos c]
/-- data whose text is short: whole numbers near 0, tuples of these -/
def Txt (d : PyData) (n : Nat) : Prop := d.showable = true ∧ d.leavesShort 13 = true ∧ d.bulk ≤ n
theorem txt_int {i : Int} (h : -1000 ≤ i ∧ i ≤ 1000) : Txt (.int i) 0 := by
  have key : ∀ k : Fin 2001, decide (((PyData.int ((k.val : Int) - 1000)).shown).length ≤ 13) = true := by decide +kernel
  have e := key ⟨(i + 1000).toNat, by omega⟩
  have e2 : (((i + 1000).toNat : Nat) : Int) - 1000 = i := by omega
  dsimp only at e
  rw [e2] at e
  refine ⟨?_, ?_, by simp [PyData.bulk]⟩
  · rw [PyData.showable]
    have h3 : i.natAbs.log2 < 1920 := by
      rcases Nat.eq_zero_or_pos i.natAbs with z | z
      · rw [z]; decide
      · exact (Nat.log2_lt (by omega)).mpr (Nat.lt_of_lt_of_le (show i.natAbs < 2 ^ 10 by omega) (Nat.pow_le_pow_right (by decide) (by decide)))
    exact decide_eq_true h3
  · rw [PyData.leavesShort]; exact e
theorem txt_all {α : Type} {enc : α → PyData} {n : Nat} : ∀ {xs : List α}, (∀ x ∈ xs, Txt (enc x) n) → PyData.showableAll (xs.map enc) = true ∧ PyData.leavesShortAll 13 (xs.map enc) = true ∧ PyData.bulkAll (xs.map enc) ≤ (n + 1) * xs.length
  | [], _ => by simp [PyData.showableAll, PyData.leavesShortAll, PyData.bulkAll]
  | x :: xs, h => by
    obtain ⟨a1, a2, a3⟩ := h x (by simp)
    obtain ⟨b1, b2, b3⟩ := txt_all (xs := xs) fun y hy => h y (List.mem_cons_of_mem _ hy)
    simp only [List.map_cons, PyData.showableAll, PyData.leavesShortAll, PyData.bulkAll, a1, a2, b1, b2, List.length_cons, Nat.mul_add]
    exact ⟨rfl, rfl, by omega⟩
theorem txt_tup {α : Type} {enc : α → PyData} {n : Nat} {xs : List α} (h : ∀ x ∈ xs, Txt (enc x) n) : Txt (.tuple (xs.map enc)) ((n + 1) * xs.length) := by
  obtain ⟨a1, a2, a3⟩ := txt_all h
  exact ⟨by rw [PyData.showable]; exact a1, by rw [PyData.leavesShort]; exact a2, by rw [PyData.bulk]; exact a3⟩
theorem txt_P {p : Int × Int} (h : -1000 ≤ p.1 ∧ p.1 ≤ 1000) (k : -1000 ≤ p.2 ∧ p.2 ≤ 1000) : Txt (pP p) 2 := by
  have z := txt_tup (enc := PyData.int) (n := 0) (xs := [p.1, p.2]) (fun x hx => by
    simp at hx
    rcases hx with rfl | rfl
    · exact txt_int h
    · exact txt_int k)
  exact z
theorem Txt.fits {d : PyData} {n : Nat} (h : Txt d n) (hn : n ≤ 2 ^ 20) : d.showable = true ∧ d.shown.length ≤ sizeLine := ⟨h.1, PyData.shown_fits_bulk (B := 13) (by decide) (by decide) h.2.1 (Nat.le_trans h.2.2 hn)⟩
theorem repr_Ts {S : Sto} {ps : List (Int × Int)} (h : ∀ p ∈ ps, (-1000 ≤ p.1 ∧ p.1 ≤ 1000) ∧ -1000 ≤ p.2 ∧ p.2 ≤ 1000) (hl : ps.length ≤ 1000) : gRepr [.d (pTs ps)] S = .ok (.d (.str (pTs ps).shown)) S := by
  have t : Txt (pTs ps) _ := txt_tup (enc := pP) (n := 2) fun p hp => txt_P (h p hp).1 (h p hp).2
  have f := t.fits (by omega)
  exact repr_of rfl ⟨encTs.lay ps, f.1, f.2, Nat.le_trans (encTs.dep ps) (by decide)⟩
theorem map_erase {α β : Type} (f : α → β) : ∀ (xs : List α) (k : Nat), (xs.map f).eraseIdx k = (xs.eraseIdx k).map f
  | [], _ => by simp
  | _ :: _, 0 => by simp
  | x :: xs, k + 1 => by simp [map_erase f xs k]
theorem erase_perm {α : Type} : ∀ (xs : List α) (k : Nat) (h : k < xs.length), (xs[k] :: xs.eraseIdx k).Perm xs
  | [], _, h => absurd h (Nat.not_lt_zero _)
  | _ :: _, 0, _ => by simp
  | x :: xs, k + 1, h => by
    have q := erase_perm xs k (by simpa using h)
    simp
    exact (List.Perm.swap _ _ _).trans (q.cons x)
end MV
set_option Elab.async false
set_option linter.all false
set_option maxRecDepth 100000
set_option maxHeartbeats 1000000
/-! The constructs of MvL evaluated. -/
namespace MV
open PySem PySem.Spec PyProof.Rows L2
section
variable {ρ : Envi} {S : Sto} {f g : Sx} {a : SA} {d : SD}
@[simp] theorem e_dNil : dNil ρ S = .ok [] S := (rfl)
@[simp] theorem e_dCons : dCons f g d ρ S = (f ρ S).bind fun v S1 => (g ρ S1).bind fun w S2 => (d ρ S2).bind fun r S3 => (match v.th, w.th with
  | .d x, .d y => match kOf x with
    | some k => .ok ((k, y) :: r) S3
    | none => .no
  | _, _ => .no) := (rfl)
@[simp] theorem e_Dic : evDic d ρ S = (d ρ S).bind fun qs S1 => if qs.length ≤ 15 then .ok (.f (.dic (putAll [] qs))) S1 else .no := (rfl)
@[simp] theorem e_Dic0 : evDic0 ρ S = .ok (.f (.dic [])) S := (rfl)
@[simp] theorem e_TupleRange : evTupleRange a ρ S = (a ρ S).bind fun vs S1 => (match vs with
  | [.d (.int b)] => if rgOk 0 b = true then .ok (.d (.tuple (rgD 0 b))) S1 else .no
  | [.d (.int a), .d (.int b)] => if rgOk a b = true then .ok (.d (.tuple (rgD a b))) S1 else .no
  | _ => .no) := (rfl)
@[simp] theorem e_ListRange : evListRange a ρ S = (a ρ S).bind fun vs S1 => (match vs with
  | [.d (.int b)] => if rgOk 0 b = true then .ok (.f (.lst (rgD 0 b))) S1 else .no
  | [.d (.int a), .d (.int b)] => if rgOk a b = true then .ok (.f (.lst (rgD a b))) S1 else .no
  | _ => .no) := (rfl)
@[simp] theorem kOf_int {i : Int} : kOf (.int i) = some (.inl i) := (rfl)
@[simp] theorem kD_inl {i : Int} : kD (.inl i) = .int i := (rfl)
end
/-! ### dicts whose keys are whole numbers -/
/-- a dict of numbers to data, as its entries stand -/
def dK (kvs : List (Int × PyData)) : List (PyData × PyData) := kvs.map fun p => (.int p.1, p.2)
theorem look_dK (k : Int) : ∀ kvs : List (Int × PyData), look (dK kvs) (.inl k) = (kvs.find? fun p => p.1 == k).map (·.2)
  | [] => rfl
  | (j, y) :: r => by
    have ih := look_dK k r
    unfold dK look at ih ⊢
    rw [List.map_cons, List.find?_cons, List.find?_cons]
    by_cases e : j = k
    · subst e; simp [kOf]
    · have e1 : decide (kOf (PyData.int j) = some (Sum.inl k)) = false := by
        refine decide_eq_false fun h => e ?_
        rw [kOf_int] at h; exact Sum.inl.inj (Option.some.inj h)
      have e2 : (j == k) = false := by simpa using e
      simp only [e1, e2]
      exact ih
def hasK (kvs : List (Int × PyData)) (k : Int) : Bool := kvs.any fun p => p.1 == k
def putK1 (kvs : List (Int × PyData)) (k : Int) (y : PyData) : List (Int × PyData) := if hasK kvs k = true then kvs.map fun p => if p.1 = k then (p.1, y) else p else kvs ++ [(k, y)]
theorem look_has (k : Int) (kvs : List (Int × PyData)) : (look (dK kvs) (.inl k)).isSome = hasK kvs k := by
  rw [look_dK]
  unfold hasK
  induction kvs with
  | nil => rfl
  | cons p r ih =>
    rw [List.find?_cons, List.any_cons]
    cases h : p.1 == k with
    | true => simp
    | false => simpa using ih
theorem putD_dK (k : Int) (y : PyData) (kvs : List (Int × PyData)) : putD (dK kvs) (.inl k) y = dK (putK1 kvs k y) := by
  unfold putD putK1
  rw [look_has]
  split
  · unfold dK
    rw [List.map_map, List.map_map]
    refine List.map_congr_left fun p _ => ?_
    simp only [Function.comp, kOf_int, Option.some.injEq, Sum.inl.injEq]
    split <;> rfl
  · unfold dK
    rw [List.map_append]
    rfl
theorem putAll_dK : ∀ (ks : List Int) (ys : List PyData) (kvs : List (Int × PyData)), putAll (dK kvs) ((ks.map Sum.inl).zip ys) = dK ((ks.zip ys).foldl (fun acc p => putK1 acc p.1 p.2) kvs)
  | [], _, _ => by simp [putAll]
  | _ :: _, [], _ => by simp [putAll]
  | k :: ks, y :: ys, kvs => by
    rw [List.map_cons, List.zip_cons_cons, List.zip_cons_cons, List.foldl_cons]
    show putAll (putD (dK kvs) (.inl k) y) _ = _
    rw [putD_dK]
    exact putAll_dK ks ys _
theorem keysOf_int : ∀ ks : List Int, keysOf (dI ks) = some (ks.map Sum.inl)
  | [] => rfl
  | k :: ks => by
    have ih := keysOf_int ks
    unfold dI at ih ⊢
    rw [List.map_cons]
    unfold keysOf
    rw [kOf_int, ih]; rfl
/-- keys met once each: the dict's entries are the pairs -/
theorem fold_put : ∀ (ks : List Int) (ys : List PyData) (kvs : List (Int × PyData)), (kvs.map (·.1) ++ ks).Nodup → ks.length = ys.length → (ks.zip ys).foldl (fun acc p => putK1 acc p.1 p.2) kvs = kvs ++ ks.zip ys
  | [], _, kvs, _, _ => by simp
  | _ :: _, [], _, _, h => by simp at h
  | k :: ks, y :: ys, kvs, nd, hl => by
    rw [List.zip_cons_cons, List.foldl_cons]
    have no : hasK kvs k = false := by
      rw [List.nodup_append] at nd
      unfold hasK
      rw [List.any_eq_false]
      intro p hp e
      exact nd.2.2 p.1 (List.mem_map_of_mem hp) k (by simp) (by simpa using e)
    have e : putK1 kvs k y = kvs ++ [(k, y)] := by unfold putK1; rw [no]; rfl
    rw [e, fold_put ks ys (kvs ++ [(k, y)]) (by simpa [List.append_assoc] using nd) (by simpa using hl)]
    simp
theorem dictZip_int {S : Sto} {ks : List Int} {ys : List PyData} (nd : ks.Nodup) (hl : ks.length = ys.length) : gDictZip [.d (.tuple (dI ks)), .d (.tuple ys)] S = .ok (.f (.dic (dK (ks.zip ys)))) S := by
  unfold gDictZip
  have hl' : (dI ks).length = ys.length := by unfold dI; rw [List.length_map]; exact hl
  have e := putAll_dK ks ys []
  rw [fold_put ks ys [] (by simpa using nd) hl] at e
  simp only [seq_t, keysOf_int, hl', if_true]
  rw [show (putAll [] ((ks.map Sum.inl).zip ys)) = putAll (dK []) ((ks.map Sum.inl).zip ys) from rfl, e]
  rfl
theorem dictZip_seq {S : Sto} {ks : List Int} {ys : List PyData} {v w : Val} {t t' : Bool} {g g' : List (Nat × List PyData)} (hv : seqOf S v = some (t, dI ks, g)) (hw : seqOf S w = some (t', ys, g')) (nd : ks.Nodup) (hl : ks.length = ys.length) : gDictZip [v, w] S = .ok (.f (.dic (dK (ks.zip ys)))) S := by
  have z := dictZip_int (S := S) nd hl
  unfold gDictZip at z ⊢
  dsimp only [seq_t] at z ⊢
  rw [hv, hw]
  exact z
/-- asked by the i-th key -/
theorem look_zip {ks : List Int} {ys : List PyData} (nd : ks.Nodup) {i : Nat} {k : Int} {y : PyData} (hk : ks[i]? = some k) (hy : ys[i]? = some y) : look (dK (ks.zip ys)) (.inl k) = some y := by
  rw [look_dK]
  induction ks generalizing ys i with
  | nil => simp at hk
  | cons j ks ih =>
    cases ys with
    | nil => simp at hy
    | cons z ys =>
      rw [List.zip_cons_cons, List.find?_cons]
      cases i with
      | zero =>
        simp at hk hy
        subst hk hy
        simp
      | succ i =>
        have hk : ks[i]? = some k := by simpa using hk
        have hy : ys[i]? = some y := by simpa using hy
        have ne : (j == k) = false := by
          have := (List.nodup_cons.mp nd).1
          simp only [beq_eq_false_iff_ne]
          intro e
          exact this (e ▸ List.mem_of_getElem? hk)
        simp only [ne]
        exact ih (List.nodup_cons.mp nd).2 hk hy
theorem seq_app {T C : Sto} {v : Val} {q : Bool × List PyData × List (Nat × List PyData)} (h : seqOf T v = some q) : seqOf (T ++ C) v = some q := by
  cases v with
  | f k => cases h
  | g k j => cases h
  | x => cases h
  | t its => cases h
  | o nm => cases h
  | d x => cases x <;> first | exact h | cases h
  | z es => exact h
  | c m =>
    rw [seq_c] at h ⊢
    split at h
    · rename_i es q
      rw [List.getElem?_append_left (st_lt q), q]
      exact h
    · cases h
/-! ### rows -/
theorem range_at {n k : Nat} {pre post : List Nat} (e : List.range n = pre ++ k :: post) : k = pre.length ∧ k < n := by
  have h := congrArg (fun l : List Nat => l[pre.length]?) e
  simp at h
  have hk : k ∈ List.range n := by rw [e]; simp
  rw [List.mem_range] at hk
  have hl : pre.length < n := by
    have := congrArg List.length e
    simp at this
    omega
  rw [List.getElem?_range hl] at h
  exact ⟨(Option.some.inj h).symm, hk⟩
theorem sub_len {α : Type} [DecidableEq α] : ∀ {xs ys : List α}, xs.Nodup → (∀ x ∈ xs, x ∈ ys) → xs.length ≤ ys.length
  | [], _, _, _ => Nat.zero_le _
  | x :: xs, ys, nd, hs => by
    have hx := hs x (by simp)
    have nx := (List.nodup_cons.mp nd).1
    have := sub_len (xs := xs) (ys := ys.erase x) (List.nodup_cons.mp nd).2 fun z hz => (List.mem_erase_of_ne fun q => nx (by rw [← q]; exact hz)).mpr (hs z (List.mem_cons_of_mem _ hz))
    rw [List.length_erase_of_mem hx] at this
    have := List.length_pos_of_mem hx
    simp
    omega
theorem perm_ints {P : List Int} {ds : List PyData} (h : ds.Perm (dI P)) : ∃ N, ds = dI N ∧ N.Perm P := by
  refine ⟨ds.map fun d => match d with | .int a => a | _ => 0, ?_, ?_⟩
  · show ds = List.map PyData.int (List.map _ ds)
    rw [List.map_map]
    refine (List.map_id _).symm.trans (List.map_congr_left fun d hd => ?_)
    obtain ⟨t, _, rfl⟩ := List.mem_map.mp (h.mem_iff.mp hd)
    rfl
  · have q := h.map fun d => match d with | .int a => a | _ => 0
    rw [List.map_map] at q
    have e : ((fun d => match d with | .int a => a | _ => 0) ∘ PyData.int) = (id : Int → Int) := rfl
    rw [e, List.map_id] at q
    exact q
def rngI (n : Nat) : List Int := (List.range n).map fun (k : Nat) => (k : Int)
theorem rise_nat (n : Nat) : Rise (rngI n) := by
  unfold rngI
  rw [Rise, List.pairwise_map]
  exact List.Pairwise.imp (fun {a b} h => by omega) List.pairwise_lt_range
theorem mem_rngI {n : Nat} {a : Int} : a ∈ rngI n ↔ 0 ≤ a ∧ a < n := by
  unfold rngI
  rw [List.mem_map]
  constructor
  · rintro ⟨k, hk, rfl⟩
    rw [List.mem_range] at hk
    omega
  · intro h
    exact ⟨a.toNat, List.mem_range.mpr (by omega), by omega⟩
theorem rgD_nat (n : Nat) : rgD 0 (n : Int) = dI (rngI n) := by
  unfold rgD rngI
  show _ = List.map PyData.int (List.map _ _)
  rw [List.map_map]
  refine List.map_congr_left fun k _ => ?_
  simp
theorem ints_dI : ∀ ns : List Int, intsOf (dI ns) = some ns
  | [] => rfl
  | n :: ns => by
    have ih := ints_dI ns
    unfold dI at ih ⊢
    rw [List.map_cons]
    unfold intsOf
    rw [ih]
    rfl
theorem g_maxL {ns : List Int} {t : Int} (S : Sto) (h : topL ns = some t) : gMax [.d (.list (dI ns))] S = .ok (.d (.int t)) S := by
  unfold gMax
  simp [asR, seqOf, ints_dI, h]
theorem g_minL {ns : List Int} {t : Int} (S : Sto) (h : lowL ns = some t) : gMin [.d (.list (dI ns))] S = .ok (.d (.int t)) S := by
  unfold gMin
  simp [asR, seqOf, ints_dI, h]
theorem low_ex {ns : List Int} (h : ns ≠ []) : ∃ t, lowL ns = some t ∧ t ∈ ns ∧ ∀ y ∈ ns, t ≤ y := by
  cases ns with
  | nil => exact absurd rfl h
  | cons n ns => exact ⟨_, rfl, lowL_ok rfl⟩
theorem at_last {α : Type} (xs : List α) (x : α) : atI (xs ++ [x]) (-1) = some x := by
  unfold atI ixN
  rw [if_neg (by decide), if_pos (by simp; omega)]
  have e : (-1 + ((xs ++ [x]).length : Int)).toNat = xs.length := by simp; omega
  show (xs ++ [x])[(-1 + ((xs ++ [x]).length : Int)).toNat]? = some x
  rw [e]; simp
theorem ix_T {ns : List Int} {i y : Int} {S : Sto} (e : atI (dI ns) i = some (.int y)) : gIx (.d (pT ns)) (.d (.int i)) S = .ok (.d (.int y)) S := by
  show gIx (.d (.tuple (dI ns))) (.d (.int i)) S = _
  rw [o_ixT, e]
end MV
set_option Elab.async false
set_option linter.all false
set_option maxRecDepth 100000
/-! Evaluation: dicts of which an item may be a cell. -/
namespace MV
open PySem PySem.Spec PyProof.Rows L2
section
variable {S : Sto} {n m : Nat} {ps : List (Key × Itm)} {ρ : Envi} {f g h : Sx}
@[simp] theorem e_sPutQ : sPutQ f g h ρ S = (h ρ S).bind fun x S1 => (f ρ S1).bind fun v S2 => (g ρ S2).bind fun i S3 => (match gPutR v.th i.th x.th S3 with | some S4 => .ok (.nx ρ) S4 | none => .no) := (rfl)
@[simp] theorem e_DicR {f : SR} : evDicR f ρ S = (f ρ S).bind fun qs S1 => if qs.length ≤ 15 ∧ (Cell.rcd (rPutAll [] qs)).lt S1.length = true then .ok (.f (.rcd (rPutAll [] qs))) S1 else .no := (rfl)
@[simp] theorem e_rNil : rNil ρ S = .ok [] S := (rfl)
@[simp] theorem e_rCons {r : SR} : rCons f g r ρ S = (f ρ S).bind fun v S1 => (g ρ S1).bind fun w S2 => (r ρ S2).bind fun r S3 => (match v.th, itmOf w.th with | .d x, some i => (match kOf x with | some k => .ok ((k, i) :: r) S3 | none => .no) | _, _ => .no) := (rfl)
theorem ixR_c {x : Str} {i : Itm} (h : S[n]? = some (.rcd ps)) (k : rLook ps (.inr x) = some i) : gIxR (.c n) (.d (.str x)) S = .ok i.val S := by
  unfold gIxR rIx
  simp only [h, kOf, k]
  rfl
theorem putR_c {x : Str} {y : PyData} (h : S[n]? = some (.rcd ps)) (hl : ps.length < sizeLine) (lt : (Cell.rcd (rPut ps (.inr x) (.d y))).lt n = true) : gPutR (.c n) (.d (.str x)) (.d y) S = some (S.set n (.rcd (rPut ps (.inr x) (.d y)))) := by
  unfold gPutR
  simp only [h, kOf]
  exact if_pos ⟨hl, lt⟩
theorem o_inLd {ds : List PyData} {d : PyData} (s1 : SeqAt.shaped d = true) (s2 : SeqAt.shaped (.list ds) = true) : isIn S (.d d) (.d (.list ds)) = some (ds.any fun z => PyData.eqv z d) := by
  unfold isIn
  cases d <;> exact if_pos ⟨s1, s2⟩
theorem Enc.inLd {α : Type} {enc : α → PyData} {k : Nat} (h : Enc enc k) (a : α) (xs : List α) [Decidable (a ∈ xs)] (hn : k + 1 ≤ 64 := by decide) : gIn (.d (enc a)) (.d (.list (xs.map enc))) S = .ok (.d (.bool (decide (a ∈ xs)))) S := by
  unfold gIn
  rw [o_inLd (h.shaped (by omega) a) (h.lst.shaped hn xs), h.any]
theorem Enc.notInLd {α : Type} {enc : α → PyData} {k : Nat} (h : Enc enc k) (a : α) (xs : List α) [Decidable (a ∈ xs)] (hn : k + 1 ≤ 64 := by decide) : gNotIn (.d (enc a)) (.d (.list (xs.map enc))) S = .ok (.d (.bool (!decide (a ∈ xs)))) S := by
  unfold gNotIn
  rw [o_inLd (h.shaped (by omega) a) (h.lst.shaped hn xs), h.any]
@[simp] theorem e_SorS : evSorS f ρ S = (f ρ S).bind fun v S1 => gSorS v.th S1 := (rfl)
theorem sorS_I {v : Val} {t : Bool} {ns : List Int} {g : List (Nat × List PyData)} (hv : seqOf S v = some (t, dI ns, g)) (hl : ns.length < 60) : gSorS v S = .ok (.f (.lst (dI (isort (dd ns))))) S := by
  unfold gSorS
  simp only [hv, ints_dI]
  rw [if_pos hl]
  rfl
theorem sorS_P {v : Val} {t : Bool} {ts : List (Int × Int)} {g : List (Nat × List PyData)} (hv : seqOf S v = some (t, dP ts, g)) (hl : ts.length < 64) (hb : ∀ t ∈ ts, 0 ≤ t.1 ∧ t.1 < 1000 ∧ 0 ≤ t.2 ∧ t.2 < 1000) : gSorS v S = .ok (.f (.lst (dP (psort (dd ts))))) S := by
  unfold gSorS
  cases ts with
  | nil =>
    simp only [hv]
    show (if (0 : Nat) < 60 then _ else _) = _
    rw [if_pos (by decide)]
    simp [dd, psort]
  | cons u ts =>
    have e1 : intsOf (dP (u :: ts)) = none := rfl
    have e2 : pairsI (dP (u :: ts)) = some (u :: ts) := pairsI_map (u :: ts)
    simp only [hv, e1, e2]
    rw [if_pos ⟨hl, List.all_eq_true.mpr fun p hp => decide_eq_true (hb p hp)⟩]
    rfl
/-! ### lists of lists -/
@[simp] theorem e_If2 {c : Envi → Bool} {f g : Sx} : evIf2 c f g ρ S = if c ρ = true then f ρ S else g ρ S := (rfl)
@[simp] theorem e_notV {i : Nat} {k : Int} : notV i k ρ = (match ρ[i]? with | some (some (.d (.int j))) => j != k | _ => true) := (rfl)
@[simp] theorem ixN_d {x : PyData} {w : Val} : gIxN (.d x) w S = gIx (.d x) w S := (rfl)
theorem ixN_lst {n : Nat} {ds : List PyData} {w : Val} (h : S[n]? = some (.lst ds)) : gIxN (.c n) w S = gIx (.c n) w S := by
  have e : nlsOf S (.c n) = none := by
    unfold nlsOf
    dsimp only
    rw [h]
  unfold gIxN
  rw [e]
theorem ixN_nls {n : Nat} {is : List Itm} {i : Int} {z : Itm} (h : S[n]? = some (.nls is)) (k : atI is i = some z) : gIxN (.c n) (.d (.int i)) S = .ok z.val S := by
  have e : nlsOf S (.c n) = some (n, is) := by
    unfold nlsOf
    dsimp only
    rw [h]
  unfold gIxN
  rw [e]
  dsimp only
  rw [k]
theorem gGo_map {α : Type} {bd : Bnd} {e : Sx} {base : Sto} (enc : α → PyData) (cel : α → List PyData) : ∀ (xs : List α) (acc : List Cell), (∀ x ∈ xs, ∃ ρ1, bd.go (enc x) ρ = some ρ1 ∧ ∀ T : Sto, e ρ1 T = .ok (.f (.lst (cel x))) T) → gGo bd e ρ base (xs.map enc) acc = some (acc ++ xs.map fun x => .lst (cel x))
  | [], acc, _ => by
    unfold gGo
    rw [List.map_nil, List.map_nil, List.append_nil]
  | x :: xs, acc, h => by
    obtain ⟨ρ1, h1, h2⟩ := h x (by simp)
    rw [List.map_cons]
    unfold gGo
    rw [h1]
    dsimp only
    rw [h2]
    dsimp only
    rw [if_pos rfl, gGo_map enc cel xs _ fun y hy => h y (List.mem_cons_of_mem _ hy)]
    simp
theorem e_CompG {α : Type} {src : SI} {bd : Bnd} {e : Sx} {own : List Nat} (enc : α → PyData) (cel : α → List PyData) (xs : List α) (hs : src ρ S = .ok ⟨xs.map enc, []⟩ S) (hl : xs.length ≤ 1000) (h : ∀ x ∈ xs, ∃ ρ1, bd.go (enc x) (wipeE ρ own) = some ρ1 ∧ ∀ T : Sto, e ρ1 T = .ok (.f (.lst (cel x))) T) :
    evCompG src bd e own ρ S = .ok (.g ((xs.map fun x => .lst (cel x)) ++ [nlsC S.length xs.length]) xs.length) S := by
  unfold evCompG
  rw [hs]
  simp only [bind_ok]
  rw [if_pos (by have : (1000 : Nat) ≤ sizeLine := by decide
                 rw [List.length_map]; omega), gGo_map enc cel xs [] h]
  simp
theorem nGo_map {i : Nat} {e : Sx} (f : Itm → PyData) : ∀ (is : List Itm) (acc : List PyData), (∀ x ∈ is, ∃ v, e (ρ.set i (some x.val)) S = .ok v S ∧ v.th = .d (f x)) → nGo i e ρ S is acc = some (acc ++ is.map f)
  | [], acc, _ => by
    unfold nGo
    rw [List.map_nil, List.append_nil]
  | x :: xs, acc, h => by
    obtain ⟨v, h1, h2⟩ := h x (by simp)
    unfold nGo
    rw [h1]
    dsimp only
    rw [if_pos rfl, h2]
    dsimp only
    rw [nGo_map f xs _ fun y hy => h y (List.mem_cons_of_mem _ hy)]
    simp
theorem e_CompN {i n : Nat} {e : Sx} {g : Sx} {own : List Nat} (f : Itm → PyData) (is : List Itm) (hg : g ρ S = .ok (.c n) S) (hn : S[n]? = some (.nls is)) (hl : is.length ≤ 1000) (h : ∀ x ∈ is, ∃ v, e ((wipeE ρ own).set i (some x.val)) S = .ok v S ∧ v.th = .d (f x)) :
    evCompN g i e own ρ S = .ok (.f (.lst (is.map f))) S := by
  have q : nlsOf S (.c n) = some (n, is) := by
    unfold nlsOf
    dsimp only
    rw [hn]
  unfold evCompN
  rw [hg]
  simp only [bind_ok, th_c]
  rw [q]
  dsimp only
  rw [if_pos (by have : (1000 : Nat) ≤ sizeLine := by decide
                 omega), nGo_map f is [] h]
  rfl
@[simp] theorem e_Swp {o1 k1 o2 k2 : Sx} {f : SA} : sSwp o1 k1 o2 k2 f ρ S = (f ρ S).bind fun vs S1 => match vs with
  | [x1, x2] => (o1 ρ S1).bind fun v1 S2 => (k1 ρ S2).bind fun i1 S3 => match gPut v1.th i1.th x1 S3 with
    | some S4 => (o2 ρ S4).bind fun v2 S5 => (k2 ρ S5).bind fun i2 S6 => match gPut v2.th i2.th x2 S6 with
      | some S7 => .ok (.nx ρ) S7
      | none => .no
    | none => .no
  | _ => .no := (rfl)
end
end MV
set_option Elab.async false
set_option linter.all false
set_option maxRecDepth 100000
/-! Sets of small numbers as numbers: bits. -/
namespace MV
open PySem PySem.Spec PyProof.Rows L2
theorem band_nn (a b : Nat) : Builtin.bitAnd (a : Int) (b : Int) = ((a &&& b : Nat) : Int) := by
  rw [bitAnd_pp (by omega) (by omega)]
  simp
theorem bor_nn (a b : Nat) : Builtin.bitOr (a : Int) (b : Int) = ((a ||| b : Nat) : Int) := by
  rw [bitOr_and, band_nn]
  have := nat_or_add_and a b
  omega
theorem bxor_nn (a b : Nat) : Builtin.bitXor (a : Int) (b : Int) = ((a ^^^ b : Nat) : Int) := by
  rw [Bits.bitXor_pp (by omega) (by omega)]
  simp
/-- a without b -/
def anot (a b : Nat) : Nat := a - (a &&& b)
theorem bandnot_nn (a b : Nat) : Builtin.bitAnd (a : Int) (Builtin.bitNot (b : Int)) = ((anot a b : Nat) : Int) := by
  rw [bitAnd_not, band_nn]
  have : a &&& b ≤ a := Nat.and_le_left
  unfold anot
  omega
theorem anot_xor (a b : Nat) : anot a b = a ^^^ (a &&& b) := by
  have h := Bits.nat_xor_add_and a (a &&& b)
  have e : a &&& (a &&& b) = a &&& b := by
    apply Nat.eq_of_testBit_eq
    intro i
    simp only [Nat.testBit_and]
    cases a.testBit i <;> simp
  rw [e] at h
  have : a &&& b ≤ a := Nat.and_le_left
  unfold anot
  omega
@[simp] theorem tb_anot (a b i : Nat) : (anot a b).testBit i = (a.testBit i && !b.testBit i) := by
  rw [anot_xor, Nat.testBit_xor, Nat.testBit_and]
  cases a.testBit i <;> cases b.testBit i <;> rfl
/-- the numbers below n that x has -/
def bitsL (n x : Nat) : List Nat := (List.range n).filter fun i => x.testBit i
theorem mem_bitsL {n x i : Nat} : i ∈ bitsL n x ↔ i < n ∧ x.testBit i = true := by
  unfold bitsL
  rw [List.mem_filter, List.mem_range]
theorem bitsL_nodup (n x : Nat) : (bitsL n x).Nodup := by
  unfold bitsL
  exact List.Nodup.sublist List.filter_sublist List.nodup_range
theorem bitsL_le (n x : Nat) : (bitsL n x).length ≤ n := by
  have := List.length_filter_le (fun i => x.testBit i) (List.range n)
  rw [List.length_range] at this
  exact this
theorem bitsL_zero (n : Nat) : bitsL n 0 = [] := by
  unfold bitsL
  simp
theorem least_bit {x : Nat} (h : x ≠ 0) : ∃ k, x.testBit k = true ∧ ∀ j, j < k → x.testBit j = false := by
  obtain ⟨i, hi⟩ := Nat.exists_testBit_of_ne_zero h
  have key : ∀ i, x.testBit i = true → ∃ k, x.testBit k = true ∧ ∀ j, j < k → x.testBit j = false := by
    intro i
    induction i using Nat.strongRecOn with
    | ind i ih =>
      intro hi
      by_cases c : ∃ j, j < i ∧ x.testBit j = true
      · obtain ⟨j, h1, h2⟩ := c
        exact ih j h1 h2
      · exact ⟨i, hi, fun j hj => by
          cases q : x.testBit j with
          | false => rfl
          | true => exact (c ⟨j, hj, q⟩).elim⟩
  exact key i hi
theorem least_shape {x k : Nat} (h : x.testBit k = true) (hb : ∀ j, j < k → x.testBit j = false) : x = 2 ^ k * (2 * (x / 2 ^ (k + 1)) + 1) := by
  have h0 : x % 2 ^ k = 0 := by
    apply Nat.eq_of_testBit_eq
    intro i
    rw [Nat.testBit_mod_two_pow, Nat.zero_testBit]
    by_cases c : i < k
    · rw [hb i c]; simp
    · simp [c]
  have h1 : x / 2 ^ k % 2 = 1 := by
    rw [Nat.testBit_eq_decide_div_mod_eq] at h
    simpa using h
  have e1 := Nat.div_add_mod x (2 ^ k)
  rw [h0, Nat.add_zero] at e1
  have e2 := Nat.div_add_mod (x / 2 ^ k) 2
  rw [h1, Nat.div_div_eq_div_mul, ← Nat.pow_succ] at e2
  rw [e2]
  exact e1.symm
theorem low_eq {x k : Nat} (h : x.testBit k = true) (hb : ∀ j, j < k → x.testBit j = false) : Builtin.bitAnd (x : Int) (0 - (x : Int)) = ((2 ^ k : Nat) : Int) := by
  have e := least_shape h hb
  have e2 : (x : Int) = (2 : Int) ^ k * (2 * ((x / 2 ^ (k + 1) : Nat) : Int) + 1) := by
    have := congrArg (Nat.cast (R := Int)) e
    rw [Int.natCast_mul, PySem.W.kbt_cast] at this
    rw [this]
    congr 1
  rw [Int.zero_sub]
  generalize ((x / 2 ^ (k + 1) : Nat) : Int) = a at e2
  rw [e2, PySem.W.kbt_low, PySem.W.kbt_cast]
theorem bitsL_rise (n x : Nat) : (bitsL n x).Pairwise (· < ·) := List.pairwise_lt_range.filter _
theorem riseN_ext {l m : List Nat} (h1 : l.Pairwise (· < ·)) (h2 : m.Pairwise (· < ·)) (h : ∀ a, a ∈ l ↔ a ∈ m) : l = m := by
  refine List.Perm.eq_of_pairwise (le := (· < ·)) (fun a b _ _ p q => absurd p (by omega)) h1 h2 ?_
  refine (List.perm_ext_iff_of_nodup ?_ ?_).mpr h
  · exact h1.imp fun h => Nat.ne_of_lt h
  · exact h2.imp fun h => Nat.ne_of_lt h
theorem bit_lt {n x k : Nat} (hx : x < 2 ^ n) (h : x.testBit k = true) : k < n := by
  by_cases c : k < n
  · exact c
  · rw [Nat.testBit_lt_two_pow (Nat.lt_of_lt_of_le hx (Nat.pow_le_pow_right (by decide) (by omega)))] at h
    cases h
theorem bitsL_low {n x k : Nat} (hx : x < 2 ^ n) (h : x.testBit k = true) (hb : ∀ j, j < k → x.testBit j = false) : bitsL n x = k :: bitsL n (x ^^^ 2 ^ k) := by
  have hk := bit_lt hx h
  refine riseN_ext (bitsL_rise _ _) ?_ fun a => ?_
  · rw [List.pairwise_cons]
    refine ⟨fun a ha => ?_, bitsL_rise _ _⟩
    obtain ⟨_, ha⟩ := mem_bitsL.mp ha
    rw [Nat.testBit_xor, Nat.testBit_two_pow] at ha
    by_cases c : k < a
    · exact c
    · exfalso
      by_cases e : k = a
      · subst e
        rw [h] at ha
        simp at ha
      · rw [hb a (by omega)] at ha
        simp [e] at ha
  · rw [List.mem_cons, mem_bitsL, mem_bitsL, Nat.testBit_xor, Nat.testBit_two_pow]
    by_cases e : k = a
    · subst e
      simp [h, hk]
    · have e' : a ≠ k := fun z => e z.symm
      simp [e, e']
theorem xor_lt {n x k : Nat} (hx : x < 2 ^ n) (hk : k < n) : x ^^^ 2 ^ k < 2 ^ n := Nat.xor_lt_two_pow hx (Nat.pow_lt_pow_right (by decide) hk)
/-- the set of those below n of which f is so -/
def maskOf : Nat → (Nat → Bool) → Nat
  | 0, _ => 0
  | n + 1, f => maskOf n f ||| (if f n = true then 2 ^ n else 0)
@[simp] theorem tb_mask (f : Nat → Bool) (i : Nat) : ∀ n, (maskOf n f).testBit i = (decide (i < n) && f i)
  | 0 => by simp [maskOf]
  | n + 1 => by
    rw [maskOf, Nat.testBit_or, tb_mask f i n]
    by_cases c : f n = true
    · rw [if_pos c, Nat.testBit_two_pow]
      by_cases e : n = i
      · subst e
        simp [c]
      · have : (i < n + 1) ↔ i < n := by omega
        simp [e, this]
    · rw [if_neg c, Nat.zero_testBit, Bool.or_false]
      by_cases e : n = i
      · subst e
        simp at c
        simp [c]
      · have : (i < n + 1) ↔ i < n := by omega
        simp [this]
theorem mask_lt (n : Nat) (f : Nat → Bool) : maskOf n f < 2 ^ n := Nat.lt_pow_two_of_testBit _ fun i hi => by
  rw [tb_mask]
  simp
  omega
theorem tb_ext {x y : Nat} (h : ∀ i, x.testBit i = y.testBit i) : x = y := Nat.eq_of_testBit_eq h
theorem mask_congr {n : Nat} {f g : Nat → Bool} (h : ∀ i, i < n → f i = g i) : maskOf n f = maskOf n g := tb_ext fun i => by
  rw [tb_mask, tb_mask]
  by_cases c : i < n
  · rw [h i c]
  · simp [c]
theorem mask_eta {n x : Nat} (hx : x < 2 ^ n) : maskOf n x.testBit = x := tb_ext fun i => by
  rw [tb_mask]
  by_cases c : i < n
  · simp [c]
  · rw [Nat.testBit_lt_two_pow (Nat.lt_of_lt_of_le hx (Nat.pow_le_pow_right (by decide) (by omega)))]
    simp
theorem bitsL_mask (n : Nat) (f : Nat → Bool) : bitsL n (maskOf n f) = (List.range n).filter f := by
  unfold bitsL
  refine List.filter_congr fun i hi => ?_
  rw [List.mem_range] at hi
  simp [hi]
theorem mask_zero {n : Nat} {f : Nat → Bool} : maskOf n f = 0 ↔ ∀ i, i < n → f i = false := by
  constructor
  · intro h i hi
    have := tb_mask f i n
    rw [h, Nat.zero_testBit] at this
    simpa [hi] using this.symm
  · intro h
    apply tb_ext
    intro i
    rw [tb_mask, Nat.zero_testBit]
    by_cases c : i < n
    · rw [h i c]; simp
    · simp [c]
theorem pos_iff {x : Nat} : 0 < x ↔ ∃ i, x.testBit i = true := by
  constructor
  · intro h
    exact Nat.exists_testBit_of_ne_zero (by omega)
  · rintro ⟨i, hi⟩
    apply Nat.pos_of_ne_zero
    rintro rfl
    rw [Nat.zero_testBit] at hi
    cases hi
/-! objects evaluated -/
section
variable {f g fo fe : Sx} {a : SA} {ρ : Envi} {S : Sto} {nms : List Str} {x nm : Str} {m : Fn} {n : Nat} {fs : List (Str × Itm)}
theorem e_Fld : evFld nms x f ρ S = (f ρ S).bind fun v S1 => match insOf nms S1 v.th with
  | some (_, _, fs) => match fLook fs x with
    | some i => .ok i.val S1
    | none => .no
  | none => .no := (rfl)
theorem e_FldQ : sFldQ nms x fo fe ρ S = (fe ρ S).bind fun y S1 => (fo ρ S1).bind fun v S2 => match insOf nms S2 v.th, itmOf y.th with
  | some (n, nm, fs), some i => if fs.length < 1000 ∧ (Cell.ins nm (fPut fs x i)).lt n = true then .ok (.nx ρ) (S2.set n (.ins nm (fPut fs x i))) else .no
  | _, _ => .no := (rfl)
theorem e_FldAdd : sFldAdd nms x fo fe ρ S = (fo ρ S).bind fun v S1 => match insOf nms S1 v.th with
  | some (_, nm, fs) => match fLook fs x with
    | some (.d (.int i)) => (fe ρ S1).bind fun x' S2 => match x'.th with
      | .d (.int j) => match insOf nms S2 v.th with
        | some (n, nm', gs) => if gs.length < 1000 ∧ nm' = nm ∧ (Cell.ins nm (fPut gs x (.d (.int (i + j))))).lt n = true then .ok (.nx ρ) (S2.set n (.ins nm (fPut gs x (.d (.int (i + j)))))) else .no
        | none => .no
      | _ => .no
    | _ => .no
  | none => .no := (rfl)
theorem e_Mth : evMth nm x m fo a ρ S = (fo ρ S).bind fun v S1 => match insOf [nm] S1 v.th with
  | some (n, _, fs) => match fLook fs x with
    | none => (a ρ S1).bind fun vs S2 => m (.c n :: vs) S2
    | some _ => .no
  | none => .no := (rfl)
@[simp] theorem e_Make : evMake nm m a ρ S = (a ρ S).bind fun vs S1 => (m (.c S1.length :: vs) (S1 ++ [.ins nm []])).bind fun v S2 => match v with
  | .d .none => out S.length S2 (.c S1.length)
  | _ => .no := (rfl)
@[simp] theorem e_CallP : evCallP m a ρ S = (a ρ S).bind fun vs S1 => (m vs S1).bind fun v S2 => out S.length S2 v := (rfl)
@[simp] theorem e_pCons : pCons f a ρ S = (f ρ S).bind fun v S1 => match v with
  | .f k => (a ρ (S1 ++ [k])).bind fun vs S2 => .ok (.c S1.length :: vs) S2
  | .g cs i => (a ρ (S1 ++ cs)).bind fun vs S2 => .ok (.c (S1.length + i) :: vs) S2
  | v => (a ρ S1).bind fun vs S2 => .ok (v :: vs) S2 := (rfl)
@[simp] theorem val_d {y : PyData} : Itm.val (.d y) = .d y := (rfl)
@[simp] theorem val_c {k : Nat} : Itm.val (.c k) = .c k := (rfl)
@[simp] theorem itm_d {y : PyData} : itmOf (.d y) = some (.d y) := (rfl)
@[simp] theorem itm_c {k : Nat} : itmOf (.c k) = some (.c k) := (rfl)
theorem ins_of (h : S[n]? = some (.ins nm fs)) (hm : nm ∈ nms := by simp) : insOf nms S (.c n) = some (n, nm, fs) := by
  unfold insOf
  dsimp only
  rw [h]
  dsimp only
  rw [if_pos hm]
end
end MV
set_option Elab.async false
set_option linter.all false
set_option maxRecDepth 100000
set_option maxHeartbeats 1000000
/-! min with a default. -/
namespace MV
open PySem PySem.Spec PyProof.Rows L2
section
variable {X : Cx} {K : Frg} {a b : Expr} {fa fb : Sx} {pos : Pos} {A A' A2 : Wd} {H H' H2 : Hp} {S S' : Sto} {Q : VK} {ρ : Envi} {σ : L2.St} {D : Ends}
/-! ### min(x, default=d) -/
def gMinD (v d : Val) (S : Sto) : Res Val := match seqOf S v with
  | some q => match q.2.1 with
    | [] => match d with
      | .d y => .ok (.d y) S
      | _ => .no
    | ds => minDat ds S
  | none => .no
def evMinD (f g : Sx) : Sx := fun ρ S => (f ρ S).bind fun v S1 => (g ρ S1).bind fun d S2 => match d with
  | .d y => gMinD v.th (.d y) S2
  | _ => .no
theorem cr_minD (hc : X.calm = true) (hu : X.A.units + 100 < cLine) : CallRK X (.builtin "min") [(Str.ofString "default")] (fun xs zs H Q => ∃ A S x z v d, xs = [x] ∧ zs = [z] ∧ Wf X.K A S H ∧ Rv X.K A H x v ∧ Rv X.K A H z d ∧ Post X.K A H Q (gMinD v d S)) := by
  intro pins s σ H xs zs us ws Q I rus rws ⟨A, S, x, z, v, d, e1, e2, wf, rv, rd, p⟩
  subst e1 e2
  obtain ⟨u, rfl, ru⟩ := vals1 rus
  obtain ⟨w, rfl, rw⟩ := vals1 rws
  unfold gMinD at p
  split at p
  case h_2 => exact p.elim
  rename_i q hq
  obtain ⟨t, ds, g⟩ := q
  obtain ⟨a, ys, rfl, h1, h2⟩ := seq_at hq wf rv
  cases ru
  show wpAny (model X.prog X.w) X.A (call (.builtin "min") [.ref a] [(Str.ofString "default", w)]) (EP X pins σ Q) X.xe s
  dsimp only at p
  have key : PySem.W.AlikeAll ds ∧ (∀ d ∈ ds, SeqAt.shaped d = true) := by
    split at p
    · exact ⟨⟨fun x hx => (by cases hx), fun x hx => (by cases hx)⟩, fun x hx => (by cases hx)⟩
    · rename_i hne
      unfold minDat at p
      split at p
      · split at p
        · rename_i hal; exact allAlike_ok hal
        · exact p.elim
      · exact p.elim
  obtain ⟨al, sh⟩ := key
  have hdp := shaped_depAll sh
  have lay := shaped_layAll sh
  have fin0 : ds = [] → ∀ h' tk, (∀ b o, s.heap.get? b = some o → h'.get? b = some o) → EP X pins σ Q w { s with heap := h', toks := tk } := fun e h' tk hk => by
    subst e
    dsimp only at p
    split at p
    · rename_i y
      exact ⟨z, H, I.kept (t' := tk) hk, rw, p z H .refl wf rd⟩
    · exact p.elim
  have fin : ∀ its, Vals ys its → ∀ (y : PyData) (zs : List PyData) (i : Nat) v h' tk bs, ds = y :: zs → its[i]? = some v → Reads h' v (PySem.W.minD y zs) bs → (∀ b o, s.heap.get? b = some o → h'.get? b = some o) → EP X pins σ Q v { s with heap := h', toks := tk } := fun its rv y zs i v h' tk bs e hv hr hk => by
    subst e
    dsimp only [minDat] at p
    split at p
    case isFalse => exact p.elim
    obtain ⟨z, rz, rp⟩ := item_rp I h1 rv sh al (minD_in y zs) hv hr hk
    exact ⟨z, H, I.kept (t' := tk) hk, rz, p z H .refl wf rp⟩
  cases t with
  | true =>
    obtain ⟨its, rv, ht, hz⟩ := I.tuple (show SqT X.K H a ys from h2)
    obtain ⟨as, rd⟩ := Dp.readsAll I ds ys its (RpL.dp _ _ lay h1) rv
    exact PySem.W.min_tuple_default (I.ok.hd hc) (show s.heap.IsTuple a its.toArray from ht) (by simpa using rd) al (by omega) fin0 fun y zs i v h' tk bs e hv hr hk => fin its rv y zs i v h' tk bs e (by simpa using hv) hr hk
  | false =>
    obtain ⟨its, rv, pl, hz⟩ := I.list (show SqL X.K H a ys from h2)
    obtain ⟨as, rd⟩ := Dp.readsAll I ds ys its (RpL.dp _ _ lay h1) rv
    exact PySem.W.min_list_default (I.ok.hd hc) pl.isList (by simpa using rd) al (by omega) fin0 fun y zs i v h' tk bs e hv hr hk => fin its rv y zs i v h' tk bs e (by simpa using hv) hr hk
theorem eMinD {p kp : Pos} (hc : X.calm = true) (hu : X.A.units + 100 < cLine) (hg : Gl X "min") (hm : X.mg "min" = none) (ha : PE X a (tE X.K fa)) (hb : PE X b (tE X.K fb))
    (hs : starEach [a] X.env = (false, eval a X.env) :: starEach [] X.env := by rfl)
    (he : backTo pos (starEach [a] X.env) = (false, eval a X.env) :: backTo pos (starEach [] X.env) := by rfl) (hpl : (backTo pos (starEach [a] X.env)).any (·.1) = false := by rfl) :
    PE X (.Call (.Name "min" p) [a] [⟨some "default", b, kp⟩] pos) (tE X.K (evMinD fa fb)) :=
  PEi (pe_callBK (cr_minD hc hu) hg hm (by decide +kernel) (pa_cons ha pa_nil hs) (pk_cons hb pk_nil) (by decide) (by decide) he hpl) fun σ H Q ⟨A, S, ρ, w, env, p⟩ =>
  at_seq (P := Post X.K A H Q) w env p (fun h => h) (fun _ _ h => h) fun v S1 x H1 e1 w1 r1 p1 =>
    at_seq (P := Post X.K A H Q) w1 (env.mono e1) p1 (fun h => h) (fun _ _ h => h) fun d S2 z H2 e2 w2 r2 p2 => by
      cases d with
      | d y => exact ⟨A, S2, x, z, v.th, .d y, rfl, rfl, w2, r1.mono e2, r2, p2.shift (e1.trans e2) w2⟩
      | _ => exact p2.elim
end
end MV
set_option Elab.async false
set_option linter.all false
set_option maxRecDepth 100000
namespace Z
open PySem PySem.Spec PyProof.Rows L2 MV
def topS (i : Nat) : Stmt := PySem.Challenge.pw_drawnweb_k28_what_is_no_table.main.body.getD i (.Pass ⟨0, 0, 0, 0⟩)
abbrev s_l_pot : Stmt := topS 16
abbrev n_l_pot : List Str := ["_law_script", "_law_cell", "_law_digits", "_law_weight", "_law_seed"]
noncomputable def y_l_pot : Ss := sSeq (sAsg (evTup (aCons (evK (.int 0)) (aCons (evK (.int 1)) (aCons (evK (.int 11)) (aNil))))) (bTup [bName 2, bName 3, bName 4])) (sSeq (sFo (iSeq (evSl
      (evV 0) (oNo) (oYes (evK (.int 63))))) (bName 1) (sSeq (sSet 4 (ev2 gMod (ev2 gPow (ev2 gAdd (ev2 gAdd (ev2 gMul (evV 4) (evK (.int 48271))) (ev2 gMod
      (evV 1) (evK (.int 2305843009213693951)))) (evK (.int 13))) (evK (.int 3))) (evK (.int 2305843009213693951)))) (sIf (tst (ev2 gGe (evCall (g1 fAbs) (aCons
      (evV 1) (aNil))) (ev2 gPow (evK (.int 10)) (evK (.int 18))))) (sSeq (sSet 2 (ev2 gAdd (evV 2) (ev2 gMul (ev2 gMod (evCall (g1 fAbs) (aCons (evV 1) (aNil)))
      (ev2 gPow (evK (.int 10)) (evK (.int 60)))) (evV 3)))) (sSet 3 (ev2 gMul (evV 3) (ev2 gPow (evK (.int 10)) (evK (.int 60)))))) (sNil)))) (sRt (evLst (aCons
      (evV 2) (aCons (evV 4) (aCons (evK (.int 0)) (aNil)))))))
noncomputable def m_l_pot : Fn := mkFn 1 5 y_l_pot
abbrev s_l_take : Stmt := topS 17
abbrev n_l_take : List Str := ["_law_pot_here", "_law_many", "_law_digit"]
noncomputable def y_l_take : Ss := sSeq (sIf (tst (ev2 gGt (ev2 gIx (evV 0) (evK (.int 0))) (evK (.int 0)))) (sSeq (sSet 2 (ev2 gMod (ev2 gIx (evV 0) (evK (.int 0))) (evV 1))) (sSeq (sPut
      (evV 0) (evK (.int 0)) (ev2 gDiv (ev2 gIx (evV 0) (evK (.int 0))) (evV 1))) (sRt (evV 2)))) (sNil)) (sSeq (sPut (evV 0) (evK (.int 2)) (ev2 gAdd (ev2
      gIx (evV 0) (evK (.int 2))) (evK (.int 1)))) (sSeq (sPut (evV 0) (evK (.int 1)) (ev2 gMod (ev2 gAdd (ev2 gAdd (ev2 gMul (ev2 gIx (evV 0) (evK (.int 1)))
      (evK (.int 48271))) (ev2 gMul (evK (.int 104729)) (ev2 gIx (evV 0) (evK (.int 2))))) (evK (.int 11))) (evK (.int 2305843009213693951)))) (sRt (ev2 gMod
      (ev2 gDiv (ev2 gMod (ev2 gPow (ev2 gIx (evV 0) (evK (.int 1))) (evK (.int 5))) (evK (.int 2305843009213693921))) (evK (.int 1009))) (evV 1)))))
noncomputable def m_l_take : Fn := mkFn 2 3 y_l_take
abbrev s_l_places : Stmt := topS 19
abbrev n_l_places : List Str := ["_law_pot_here", "_law_many", "_law_wide", "_law_at", "_law_places_here", "_law_k"]
noncomputable def y_l_places : Ss := sSeq (sSet 2 (evCall m_l_take (aCons (evV 0) (aCons (evK (.int 3)) (aNil))))) (sSeq (sSet 3 (evCall m_l_take (aCons (evV 0) (aCons (evK (.int 4)) (aNil)))))
      (sSeq (sCell 4 (evLst (aNil))) (sSeq (sFo (iBy gRange1 (aCons (evV 1) (aNil))) (bName 5) (sSeq (sEx (evMt "list" gAppend (evV 4) (aCons (evV 3) (aNil))))
      (sSet 3 (ev2 gAdd (ev2 gAdd (evV 3) (evK (.int 1))) (ev2 gIx (evLst (aCons (evK (.int 0)) (aCons (evCall m_l_take (aCons (evV 0) (aCons (evK (.int 2))
      (aNil)))) (aCons (evCall m_l_take (aCons (evV 0) (aCons (evK (.int 4)) (aNil)))) (aNil))))) (evV 2)))))) (sRt (evV 4)))))
noncomputable def m_l_places : Fn := mkFn 2 6 y_l_places
abbrev s_l_pairs : Stmt := topS 20
abbrev n_l_pairs : List Str := ["_law_pot_here", "_law_many", "_law_mode", "_law_more", "_law_pairs_here", "_law_k", "_law_bar", "_law_b", "_law_a"]
noncomputable def y_l_pairs : Ss := sSeq (sSet 2 (evCall m_l_take (aCons (evV 0) (aCons (evK (.int 7)) (aNil))))) (sSeq (sSet 3 (evCall m_l_take (aCons (evV 0) (aCons (evK (.int 4)) (aNil)))))
      (sSeq (sCell 4 (evLst (aNil))) (sSeq (sIf (tst (ev2 gIn (evV 2) (evTup (aCons (evK (.int 1)) (aCons (evK (.int 2)) (aCons (evK (.int 3)) (aNil)))))))
      (sSeq (sSet 6 (ev2 gIx (evLst (aCons (evK (.int 0)) (aCons (evK (.int 4)) (aCons (evK (.int 2)) (aCons (evK (.int 5)) (aNil)))))) (evV 2))) (sFo (iBy
      gRange1 (aCons (evV 1) (aNil))) (bName 7) (sEx (evMt "list" gExtend (evV 4) (aCons (evComp (iBy gRange1 (aCons (evV 7) (aNil))) (bName 8) (tst (ev2 gGt
      (evV 6) (ev2 gMul (evK (.int 2)) (evCall m_l_take (aCons (evV 0) (aCons (evK (.int 3)) (aNil))))))) (evTup (aCons (evV 8) (aCons (evV 7) (aNil)))) [8])
      (aNil)))))) (sNil)) (sSeq (sIf (tst (ev2 gEq (evV 2) (evK (.int 4)))) (sCell 4 (evComp (iBy gRange2 (aCons (evK (.int 1)) (aCons (evV 1) (aNil)))) (bName
      7) (bYes) (evTup (aCons (evCall m_l_take (aCons (evV 0) (aCons (evV 7) (aNil)))) (aCons (evV 7) (aNil)))) [7])) (sNil)) (sSeq (sIf (bAnd (tst (ev2 gEq
      (evV 2) (evK (.int 5)))) (tst (ev2 gGt (evV 1) (evK (.int 2))))) (sCell 4 (ev2 gAdd (evComp (iBy gRange1 (aCons (ev2 gSub (evV 1) (evK (.int 1))) (aNil)))
      (bName 8) (bYes) (evTup (aCons (evV 8) (aCons (ev2 gAdd (evV 8) (evK (.int 1))) (aNil)))) [8]) (evLst (aCons (evTup (aCons (evK (.int 0)) (aCons (ev2
      gSub (evV 1) (evK (.int 1))) (aNil)))) (aNil))))) (sNil)) (sSeq (sIf (tst (ev2 gEq (evV 2) (evK (.int 6)))) (sSeq (sCell 4 (evComp (iBy gRange1 (aCons
      (ev2 gSub (evV 1) (evK (.int 1))) (aNil))) (bName 8) (tst (ev2 gLt (ev2 gMod (evV 8) (evK (.int 3))) (evK (.int 2)))) (evTup (aCons (evV 8) (aCons (ev2
      gAdd (evV 8) (evK (.int 1))) (aNil)))) [8])) (sEx (evMt "list" gExtend (evV 4) (aCons (evComp (iBy gRange1 (aCons (ev2 gSub (evV 1) (evK (.int 3))) (aNil)))
      (bName 8) (bYes) (evTup (aCons (evV 8) (aCons (ev2 gAdd (evV 8) (evK (.int 3))) (aNil)))) [8]) (aNil))))) (sNil)) (sSeq (sFo (iBy gRange1 (aCons (ev2
      gMul (evV 3) (evCall (g1 fInt) (aCons (evAnd (ev2 gGt (evV 2) (evK (.int 3))) (ev2 gGt (evV 1) (evK (.int 1)))) (aNil)))) (aNil))) (bName 5) (sSeq (sSet
      7 (ev2 gAdd (evK (.int 1)) (evCall m_l_take (aCons (evV 0) (aCons (ev2 gSub (evV 1) (evK (.int 1))) (aNil)))))) (sEx (evMt "list" gAppend (evV 4) (aCons
      (evTup (aCons (evCall m_l_take (aCons (evV 0) (aCons (evV 7) (aNil)))) (aCons (evV 7) (aNil)))) (aNil)))))) (sRt (evSl (evSorS (evV 4)) (oNo) (oYes (evK
      (.int 60))))))))))))
noncomputable def m_l_pairs : Fn := mkFn 2 9 y_l_pairs
abbrev s_l_web : Stmt := topS 21
abbrev n_l_web : List Str := ["_law_pot_here", "_law_many", "_law_places_here", "_law_ties", "_law_a", "_law_b"]
noncomputable def y_l_web : Ss := sSeq (sSet 2 (evCall m_l_places (aCons (evV 0) (aCons (evV 1) (aNil))))) (sSeq (sSet 3 (evComp (iSeq (evCall m_l_pairs (aCons (evV 0) (aCons (evV 1) (aNil)))))
      (bTup [bName 4, bName 5]) (bYes) (evTup (aCons (ev2 gIx (evV 2) (evV 4)) (aCons (ev2 gIx (evV 2) (evV 5)) (aNil)))) [4, 5])) (sRt (evTup (aCons (evCall
      (g1 fTuple) (aCons (evV 2) (aNil))) (aCons (evCall (g1 fTuple) (aCons (evV 3) (aNil))) (aNil))))))
noncomputable def m_l_web : Fn := mkFn 2 6 y_l_web
abbrev s_members : Stmt := topS 4
abbrev n_members : List Str := ["number", "found", "at"]
noncomputable def y_members : Ss := sSeq (sCell 1 (evLst (aNil))) (sSeq (sSet 2 (evK (.int 0))) (sSeq (sWhN (tst (ev2 gGt (evV 0) (evK (.int 0)))) (sSeq (sIf (tst (ev2 gEq (ev2 gAnd (evV 0)
      (evK (.int 1))) (evK (.int 1)))) (sEx (evMt "list" gAppend (evV 1) (aCons (evV 2) (aNil)))) (sNil)) (sSeq (sSet 0 (ev2 gShr (evV 0) (evK (.int 1)))) (sAug
      2 (gInt (fun _ _ => true) fun i j => .int (i + j)) (evK (.int 1))))) 1000000) (sRt (evV 1))))
noncomputable def m_members : Fn := mkFn 1 3 y_members
abbrev s_around : Stmt := topS 5
abbrev n_around : List Str := ["ties", "number", "found", "at"]
noncomputable def y_around : Ss := sSeq (sSet 2 (evK (.int 0))) (sSeq (sFo (iSeq (evCall m_members (aCons (evV 1) (aNil)))) (bName 3) (sSet 2 (ev2 gOr (evV 2) (ev2 gIx (evV 0) (evV 3)))))
      (sRt (evV 2)))
noncomputable def m_around : Fn := mkFn 2 4 y_around
abbrev s_outside : Stmt := topS 6
abbrev n_outside : List Str := ["some", "number"]
noncomputable def y_outside : Ss := sRt (ev2 gSub (evV 0) (ev2 gAnd (evV 0) (evV 1)))
noncomputable def m_outside : Fn := mkFn 2 2 y_outside
abbrev s_width_cost : Stmt := topS 7
abbrev n_width_cost : List Str := ["ties", "number", "at", "inner", "ahead"]
noncomputable def y_width_cost : Ss := sSeq (sSet 3 (ev2 gShl (evK (.int 1)) (evV 2))) (sSeq (sSet 4 (evK (.int 0))) (sSeq (sWhN (tst (ev2 gNe (evV 3) (evV 4))) (sSeq (sSet 4 (evV 3)) (sSet 3
      (ev2 gOr (evV 3) (ev2 gAnd (evCall m_around (aCons (evV 0) (aCons (evV 3) (aNil)))) (evV 1))))) 1000000) (sRt (evCall (g1 fLen) (aCons (evCall m_members
      (aCons (evCall m_outside (aCons (evCall m_around (aCons (evV 0) (aCons (evV 3) (aNil)))) (aCons (evV 1) (aNil)))) (aNil))) (aNil))))))
noncomputable def m_width_cost : Fn := mkFn 3 5 y_width_cost
abbrev s_near : Stmt := topS 1
abbrev n_near : List Str := ["web", "place", "ahead", "behind", "a", "b"]
noncomputable def y_near : Ss := sSeq (sSet 2 (evComp (iSeq (ev2 gIx (evV 0) (evK (.int 1)))) (bTup [bName 4, bName 5]) (tst (ev2 gEq (evV 5) (evV 1))) (evV 4) [4, 5])) (sSeq (sSet 3 (evComp
      (iSeq (ev2 gIx (evV 0) (evK (.int 1)))) (bTup [bName 4, bName 5]) (tst (ev2 gEq (evV 4) (evV 1))) (evV 5) [4, 5])) (sRt (evCall (g1 fTuple) (aCons (evCall
      gSorted (aCons (ev2 gAdd (evV 2) (evV 3)) (aNil))) (aNil)))))
noncomputable def m_near : Fn := mkFn 2 6 y_near
abbrev s_ties_by_place : Stmt := topS 3
abbrev n_ties_by_place : List Str := ["web", "places", "found", "place", "number", "other"]
noncomputable def y_ties_by_place : Ss := sSeq (sSet 1 (ev2 gIx (evV 0) (evK (.int 0)))) (sSeq (sCell 2 (evLst (aNil))) (sSeq (sFo (iSeq (evV 1)) (bName 3) (sSeq (sSet 4 (evK (.int 0))) (sSeq (sFo
      (iSeq (evCall m_near (aCons (evV 0) (aCons (evV 3) (aNil))))) (bName 5) (sSet 4 (ev2 gOr (evV 4) (ev2 gShl (evK (.int 1)) (evMt2 gIdxL gIdxT (evV 1) (aCons
      (evV 5) (aNil))))))) (sEx (evMt "list" gAppend (evV 2) (aCons (evV 4) (aNil))))))) (sRt (evV 2))))
noncomputable def m_ties_by_place : Fn := mkFn 1 6 y_ties_by_place
abbrev s_spread_cost : Stmt := topS 8
abbrev n_spread_cost : List Str := ["ties", "number", "at", "before", "place"]
noncomputable def y_spread_cost : Ss := sSeq (sSet 3 (evComp (iSeq (evCall m_members (aCons (evV 1) (aNil)))) (bName 4) (bAnd (tst (ev2 gNe (evV 4) (evV 2))) (tst (ev2 gGt (evCall m_outside (aCons
      (ev2 gIx (evV 0) (evV 4)) (aCons (evV 1) (aNil)))) (evK (.int 0))))) (evV 4) [4])) (sRt (ev2 gAdd (evCall (g1 fLen) (aCons (evV 3) (aNil))) (evCall (g1
      fInt) (aCons (ev2 gGt (evCall m_outside (aCons (ev2 gIx (evV 0) (evV 2)) (aCons (evV 1) (aNil)))) (evK (.int 0))) (aNil)))))
noncomputable def m_spread_cost : Fn := mkFn 3 5 y_spread_cost
abbrev s_last_cost : Stmt := topS 9
abbrev n_last_cost : List Str := ["ties", "table", "number", "at", "cost"]
noncomputable def y_last_cost : Ss := sRt (evCall gMax (aCons (ev2 gIx (evV 1) (ev2 gSub (evV 2) (ev2 gShl (evK (.int 1)) (evV 3)))) (aCons (evCallV 4 [("spread_cost", m_spread_cost), ("width_cost",
      m_width_cost)] (aCons (evV 0) (aCons (evV 2) (aCons (evV 3) (aNil))))) (aNil))))
noncomputable def m_last_cost : Fn := mkFn 5 5 y_last_cost
abbrev s_are_numbers : Stmt := topS 11
abbrev n_are_numbers : List Str := ["thing", "many", "one"]
noncomputable def y_are_numbers : Ss := sSeq (sIf (bOr (bNot (tst (evIsi "tuple" (evV 0)))) (tst (ev2 gNe (evCall (g1 fLen) (aCons (evV 0) (aNil))) (evV 1)))) (sRt (evK (.bool false))) (sNil))
      (sRt (evCall (g1 fAll) (aCons (evComp (iSeq (evV 0)) (bName 2) (bYes) (evAnd (evIsi "int" (evV 2)) (evNot (evIsi "bool" (evV 2)))) [2]) (aNil))))
noncomputable def m_are_numbers : Fn := mkFn 2 3 y_are_numbers
abbrev s_shows_by : Stmt := topS 12
abbrev n_shows_by : List Str := ["web", "many", "thing", "cost", "ties", "number", "at"]
noncomputable def y_shows_by : Ss := sSeq (sSet 4 (evCall m_ties_by_place (aCons (evV 0) (aNil)))) (sSeq (sIf (bOr (bNot (tst (evCall m_are_numbers (aCons (evV 2) (aCons (ev2 gShl (evK (.int
      1)) (evCall (g1 fLen) (aCons (evV 4) (aNil)))) (aNil)))))) (tst (ev2 gGt (ev2 gIx (evV 2) (evK (.int 0))) (evK (.int 0))))) (sRt (evK (.bool false)))
      (sNil)) (sSeq (sFo (iBy gRange2 (aCons (evK (.int 1)) (aCons (evCall (g1 fLen) (aCons (evV 2) (aNil))) (aNil)))) (bName 5) (sFo (iSeq (evCall m_members
      (aCons (evV 5) (aNil)))) (bName 6) (sIf (tst (ev2 gGt (ev2 gIx (evV 2) (evV 5)) (evCall m_last_cost (aCons (evV 4) (aCons (evV 2) (aCons (evV 5) (aCons
      (evV 6) (aCons (evV 3) (aNil))))))))) (sRt (evK (.bool false))) (sNil)))) (sRt (ev2 gGe (ev2 gIx (evV 2) (evUn (fun i => -i) (evK (.int 1)))) (evV 1)))))
noncomputable def m_shows_by : Fn := mkFn 4 7 y_shows_by
abbrev s_shows_width : Stmt := topS 13
abbrev n_shows_width : List Str := ["web", "many", "thing"]
noncomputable def y_shows_width : Ss := sRt (evCall m_shows_by (aCons (evV 0) (aCons (evV 1) (aCons (evV 2) (aCons (evFn "width_cost") (aNil))))))
noncomputable def m_shows_width : Fn := mkFn 3 3 y_shows_width
abbrev s_shows_spread : Stmt := topS 14
abbrev n_shows_spread : List Str := ["web", "many", "thing"]
noncomputable def y_shows_spread : Ss := sRt (evCall m_shows_by (aCons (evV 0) (aCons (evV 1) (aCons (evV 2) (aCons (evFn "spread_cost") (aNil))))))
noncomputable def m_shows_spread : Fn := mkFn 3 3 y_shows_spread
abbrev s_l_pick : Stmt := topS 18
abbrev n_l_pick : List Str := ["_law_pot_here", "_law_some"]
noncomputable def y_l_pick : Ss := sRt (ev2 gIx (evV 1) (evCall m_l_take (aCons (evV 0) (aCons (evCall (g1 fLen) (aCons (evV 1) (aNil))) (aNil)))))
noncomputable def m_l_pick : Fn := mkFn 2 2 y_l_pick
abbrev s_l_near : Stmt := topS 22
abbrev n_l_near : List Str := ["_law_web_here", "_law_place", "_law_a", "_law_b"]
noncomputable def y_l_near : Ss := sRt (evComp (iSeq (ev2 gIx (evV 0) (evK (.int 1)))) (bTup [bName 2, bName 3]) (tst (ev2 gIn (evV 1) (evTup (aCons (evV 2) (aCons (evV 3) (aNil)))))) (ev2
      gSub (ev2 gAdd (evV 2) (evV 3)) (evV 1)) [2, 3])
noncomputable def m_l_near : Fn := mkFn 2 4 y_l_near
abbrev s_l_masks : Stmt := topS 23
abbrev n_l_masks : List Str := ["_law_web_here", "_law_found", "_law_place", "_law_other"]
noncomputable def y_l_masks : Ss := sSeq (sCell 1 (evLst (aNil))) (sSeq (sFo (iSeq (ev2 gIx (evV 0) (evK (.int 0)))) (bName 2) (sEx (evMt "list" gAppend (evV 1) (aCons (evCall (g1 fSum) (aCons
      (evComp (iSeq (evCall m_l_near (aCons (evV 0) (aCons (evV 2) (aNil))))) (bName 3) (bYes) (ev2 gShl (evK (.int 1)) (evMt2 gIdxL gIdxT (ev2 gIx (evV 0)
      (evK (.int 0))) (aCons (evV 3) (aNil)))) [3]) (aNil))) (aNil))))) (sRt (evV 1)))
noncomputable def m_l_masks : Fn := mkFn 1 4 y_l_masks
abbrev s_l_costs : Stmt := topS 24
abbrev n_l_costs : List Str := ["_law_web_here", "_law_wide", "_law_ties", "_law_costs_here", "_law_number", "_law_some", "_law_mine", "_law_at", "_law_met", "_law_waits", "_law_here", "_law_one"]
noncomputable def y_l_costs : Ss := sSeq (sSet 2 (evCall m_l_masks (aCons (evV 0) (aNil)))) (sSeq (sCell 3 (evLst (aNil))) (sSeq (sFo (iBy gRange1 (aCons (ev2 gShl (evK (.int 1)) (evCall (g1
      fLen) (aCons (evV 2) (aNil)))) (aNil))) (bName 4) (sSeq (sSet 5 (evComp (iBy gRange1 (aCons (evCall (g1 fLen) (aCons (evV 2) (aNil))) (aNil))) (bName
      7) (tst (ev2 gEq (ev2 gAnd (ev2 gShr (evV 4) (evV 7)) (evK (.int 1))) (evK (.int 1)))) (evV 7) [7])) (sBldD 6 3 (sSeq (sCell 6 (evDic0)) (sFo (iSeq (evV
      5)) (bName 7) (sSeq (sPut (evV 6) (evV 7) (evCall (g1 fLen) (aCons (evComp (iSeq (evV 5)) (bName 11) (tst (ev2 gGt (ev2 gAnd (ev2 gIx (evV 2) (evV 11))
      (ev2 gSub (evUn (fun i => -i) (evK (.int 1))) (evV 4))) (evK (.int 0)))) (evV 11) [11]) (aNil)))) (sIf (tst (evV 1)) (sSeq (sPar 8 9 (aCell (evLst (aCons
      (evV 7) (aNil))) (aCell (evLst (aCons (evV 7) (aNil))) (aNil)))) (sSeq (sWhN (tst (ev2 gNe (evV 9) (evLst (aNil)))) (sSeq (sSet 10 (ev2 gIx (evV 2) (evMt
      "list" gPop (evV 9) aNil))) (sFo (iBy gRange1 (aCons (evCall (g1 fLen) (aCons (evV 2) (aNil))) (aNil))) (bName 11) (sIf (bAnd (tst (ev2 gEq (ev2 gAnd
      (ev2 gShr (evV 10) (evV 11)) (evK (.int 1))) (evK (.int 1)))) (tst (ev2 gNotIn (evV 11) (evV 8)))) (sSeq (sEx (evMt "list" gAppend (evV 8) (aCons (evV
      11) (aNil)))) (sEx (evMt "list" gExtend (evV 9) (aCons (ev2 gMul (evLst (aCons (evV 11) (aNil))) (evCall (g1 fInt) (aCons (ev2 gIn (evV 11) (evV 5)) (aNil))))
      (aNil))))) (sNil)))) 1000000) (sPut (evV 6) (evV 7) (evCall (g1 fLen) (aCons (evComp (iSeq (evV 8)) (bName 11) (tst (ev2 gNotIn (evV 11) (evV 5))) (evV
      11) [11]) (aNil)))))) (sNil)))))))) (sRt (evV 3))))
noncomputable def m_l_costs : Fn := mkFn 2 12 y_l_costs
abbrev s_l_greatest : Stmt := topS 25
abbrev n_l_greatest : List Str := ["_law_costs_here", "_law_table", "_law_number", "_law_mine", "_law_some", "_law_at"]
noncomputable def y_l_greatest : Ss := sSeq (sCell 1 (evLst (aCons (evK (.int 0)) (aNil)))) (sSeq (sFo (iBy gRange2 (aCons (evK (.int 1)) (aCons (evCall (g1 fLen) (aCons (evV 0) (aNil))) (aNil))))
      (bName 2) (sSeq (sSet 3 (ev2 gIx (evV 0) (evV 2))) (sSeq (sSet 4 (evComp (iAny (evV 3)) (bName 5) (bYes) (evCall gMax (aCons (ev2 gIx (evV 1) (ev2 gSub
      (evV 2) (ev2 gShl (evK (.int 1)) (evV 5)))) (aCons (ev2 gIx (evV 3) (evV 5)) (aNil)))) [5])) (sEx (evMt "list" gAppend (evV 1) (aCons (evCall gMin (aCons
      (evV 4) (aNil))) (aNil))))))) (sRt (evV 1)))
noncomputable def m_l_greatest : Fn := mkFn 1 6 y_l_greatest
abbrev s_l_odd : Stmt := topS 26
abbrev n_l_odd : List Str := ["_law_pot_here", "_law_table", "_law_one", "_law_some", "_law_other", "_law_mode", "_law_at"]
noncomputable def y_l_odd : Ss := sSeq (sPar 5 6 (aCons (evCall m_l_take (aCons (evV 0) (aCons (evK (.int 7)) (aNil)))) (aCons (evCall m_l_take (aCons (evV 0) (aCons (evCall (g1 fLen) (aCons
      (evV 1) (aNil))) (aNil)))) (aNil)))) (sSeq (sSet 2 (ev2 gIx (evV 1) (evV 6))) (sSeq (sSet 3 (evLst (aCons (ev2 gGt (evV 2) (evK (.int 0))) (aCons (evK
      .none) (aCons (evCall gStr (aCons (evV 2) (aNil))) (aCons (evTup (aCons (evV 2) (aNil))) (aCons (evLst (aCons (evV 2) (aNil))) (aCons (evDic (dCons (evV
      2) (evV 2) (dNil))) (aCons (evK (.str (Str.ofString ""))) (aCons (evK (.bool true)) (aCons (evK (.bool false)) (aCons (evTup (aNil)) (aNil)))))))))))))
      (sSeq (sSet 4 (evCall m_l_pick (aCons (evV 0) (aCons (evV 3) (aNil))))) (sSeq (sIf (tst (ev2 gEq (evV 5) (evK (.int 0)))) (sRt (ev2 gAdd (evSl (evV 1)
      (oNo) (oYes (evV 6))) (evSl (evV 1) (oYes (ev2 gAdd (evV 6) (evK (.int 1)))) (oNo)))) (sNil)) (sSeq (sIf (tst (ev2 gEq (evV 5) (evK (.int 1)))) (sRt (ev2
      gAdd (evSl (evV 1) (oNo) (oYes (ev2 gAdd (evV 6) (evK (.int 1))))) (evSl (evV 1) (oYes (evV 6)) (oNo)))) (sNil)) (sSeq (sIf (tst (ev2 gLt (evV 5) (evK
      (.int 5)))) (sRt (ev2 gAdd (ev2 gAdd (evSl (evV 1) (oNo) (oYes (evV 6))) (evTup (aCons (evV 4) (aNil)))) (evSl (evV 1) (oYes (ev2 gAdd (evV 6) (evK (.int
      1)))) (oNo)))) (sNil)) (sRt (ev2 gIx (evLst (aCons (evCall gList (aCons (evV 1) (aNil))) (aCons (evTup (aCons (evV 1) (aNil))) (aNil)))) (ev2 gSub (evV
      5) (evK (.int 5)))))))))))
noncomputable def m_l_odd : Fn := mkFn 2 7 y_l_odd
abbrev s_l_right : Stmt := topS 27
abbrev n_l_right : List Str := ["_law_pot_here", "_law_web_here", "_law_wide", "_law_table", "_law_shows", "_law_some", "_law_thing", "_law_many", "_law_k"]
noncomputable def y_l_right : Ss := sSeq (sSet 3 (evCall (g1 fTuple) (aCons (evCall m_l_greatest (aCons (evCall m_l_costs (aCons (evV 1) (aCons (evV 2) (aNil)))) (aNil))) (aNil)))) (sSeq (sSet
      4 (evPick (aCons (evFn "shows_spread") (aCons (evFn "shows_width") (aNil))) (evCall (g1 fInt) (aCons (evV 2) (aNil))))) (sSeq (sIf (tst (ev2 gNotB (evCallV
      4 [("shows_spread", m_shows_spread), ("shows_width", m_shows_width)] (aCons (evV 1) (aCons (ev2 gIx (evV 3) (evUn (fun i => -i) (evK (.int 1)))) (aCons
      (evV 3) (aNil))))) (evK (.bool true)))) (sRt (evK (.bool false))) (sNil)) (sSeq (sSet 5 (evLst (aCons (evK .none) (aCons (evK (.bool true)) (aCons (evK
      (.int 0)) (aCons (evK (.str (Str.ofString ""))) (aCons (evK (.str (Str.ofString "table"))) (aCons (evLst (aNil)) (aCons (evDic0) (aCons (evTup (aNil))
      (aCons (ev2 gAdd (evV 3) (evTup (aCons (evK (.int 0)) (aNil)))) (aCons (evTup (aCons (evV 3) (aCons (evV 3) (aNil)))) (aNil))))))))))))) (sSeq (sSet 5
      (ev2 gAdd (evV 5) (evLst (aCons (ev2 gIx (evV 3) (evUn (fun i => -i) (evK (.int 1)))) (aCons (ev2 gMulT (evTup (aCons (evTup (aNil)) (aNil))) (evCall
      (g1 fLen) (aCons (evV 3) (aNil)))) (aNil)))))) (sSeq (sFo (iSeq (ev2 gAdd (evV 5) (evComp (iBy gRange1 (aCons (evK (.int 8)) (aNil))) (bName 8) (bYes)
      (evCall m_l_odd (aCons (evV 0) (aCons (evV 3) (aNil)))) [8]))) (bName 6) (sSeq (sSet 7 (evCall m_l_pick (aCons (evV 0) (aCons (evLst (aCons (evK (.int
      0)) (aCons (evUn (fun i => -i) (evK (.int 1))) (aCons (evUn (fun i => -i) (ev2 gPow (evK (.int 10)) (evK (.int 20)))) (aCons (ev2 gIx (evV 3) (evUn (fun
      i => -i) (evK (.int 1)))) (aNil)))))) (aNil))))) (sIf (tst (ev2 gNotB (evCallV 4 [("shows_spread", m_shows_spread), ("shows_width", m_shows_width)] (aCons
      (evV 1) (aCons (evV 7) (aCons (evV 6) (aNil))))) (evK (.bool false)))) (sRt (evK (.bool false))) (sNil)))) (sRt (ev2 gIsB (evCallV 4 [("shows_spread",
      m_shows_spread), ("shows_width", m_shows_width)] (aCons (evV 1) (aCons (ev2 gIx (evV 3) (evUn (fun i => -i) (evK (.int 1)))) (aCons (evV 3) (aNil)))))
      (evK (.bool true)))))))))
noncomputable def m_l_right : Fn := mkFn 3 9 y_l_right
abbrev s_law : Stmt := topS 28
abbrev n_law : List Str := ["_law_script", "_law_pot_here", "_law_turn", "_law_web_here"]
noncomputable def y_law : Ss := sSeq (sCell 1 (evCall m_l_pot (aCons (evV 0) (aNil)))) (sSeq (sFo (iBy gRange1 (aCons (evK (.int 2)) (aNil))) (bName 2) (sSeq (sSet 3 (evCall m_l_web (aCons
      (evV 1) (aCons (evCall m_l_take (aCons (evV 1) (aCons (evK (.int 6)) (aNil)))) (aNil))))) (sIf (bOr (bNot (tst (evCall m_l_right (aCons (evV 1) (aCons
      (evV 3) (aCons (evK (.bool true)) (aNil))))))) (bNot (tst (evCall m_l_right (aCons (evV 1) (aCons (evV 3) (aCons (evK (.bool false)) (aNil)))))))) (sRt
      (evK (.bool false))) (sNil)))) (sRt (evK (.bool true))))
noncomputable def m_law : Fn := mkFn 1 4 y_law
end Z
set_option Elab.async false
set_option linter.all false
set_option maxRecDepth 100000
set_option maxHeartbeats 1000000
/-! Webs as graphs; dicts of numbers asked. -/
namespace Z
open PySem PySem.Spec PyProof.Rows L2 MV
def nearL (W : Web) (p : Int) : List Int := isort ((W.2.filter fun t => t.2 == p).map (·.1) ++ (W.2.filter fun t => t.1 == p).map (·.2))
def nbr (W : Web) (a b : Int) : Prop := (a, b) ∈ W.2 ∨ (b, a) ∈ W.2
theorem nbr.symm {W : Web} {a b : Int} (h : nbr W a b) : nbr W b a := h.elim .inr .inl
theorem mem_tiedL {W : Web} {a b : Int} : (b ∈ (W.2.filter fun t => t.1 == a).map (·.2) ++ (W.2.filter fun t => t.2 == a).map (·.1)) ↔ nbr W a b := by
  rw [List.mem_append, List.mem_map, List.mem_map]
  constructor
  · rintro (⟨⟨x, y⟩, h, rfl⟩ | ⟨⟨x, y⟩, h, rfl⟩)
    · rw [List.mem_filter] at h
      have e : x = a := by simpa using h.2
      subst e
      exact .inl h.1
    · rw [List.mem_filter] at h
      have e : y = a := by simpa using h.2
      subst e
      exact .inr h.1
  · rintro (h | h)
    · exact .inl ⟨(a, b), List.mem_filter.mpr ⟨h, by simp⟩, rfl⟩
    · exact .inr ⟨(b, a), List.mem_filter.mpr ⟨h, by simp⟩, rfl⟩
theorem mem_nearL {W : Web} {a b : Int} : b ∈ nearL W a ↔ nbr W a b := by
  unfold nearL
  rw [mem_isort, ← mem_tiedL]
  simp only [List.mem_append]
  exact or_comm
theorem nearL_le (W : Web) (a : Int) : (nearL W a).Pairwise (· ≤ ·) := isort_le _
theorem nearL_length (W : Web) (a : Int) : (nearL W a).length ≤ 2 * W.2.length := by
  unfold nearL
  have h1 := List.length_filter_le (fun t : Int × Int => t.2 == a) W.2
  have h2 := List.length_filter_le (fun t : Int × Int => t.1 == a) W.2
  simp
  omega
/-! ### dicts of numbers asked -/
def lookK (kvs : List (Int × PyData)) (k : Int) : Option PyData := (kvs.find? fun p => p.1 == k).map (·.2)
section
variable {S : Sto} {v : Val} {kvs : List (Int × PyData)}
theorem in_dicV (k : Int) (h : asM S v = some (dK kvs)) : gIn (.d (.int k)) v S = .ok (.d (.bool (hasK kvs k))) S := by
  unfold gIn isIn
  rw [h]
  simp [look_has]
theorem notIn_dicV (k : Int) (h : asM S v = some (dK kvs)) : gNotIn (.d (.int k)) v S = .ok (.d (.bool (!hasK kvs k))) S := by
  unfold gNotIn isIn
  rw [h]
  simp [look_has]
theorem get2_dicV (k : Int) (y : PyData) (h : asM S v = some (dK kvs)) : gGet v [.d (.int k), .d y] S = .ok (.d ((lookK kvs k).getD y)) S := by
  unfold gGet
  rw [h]
  simp [look_dK, lookK]
theorem get1_dicV (k : Int) (h : asM S v = some (dK kvs)) : gGet v [.d (.int k)] S = .ok (.d ((lookK kvs k).getD .none)) S := by
  unfold gGet
  rw [h]
  simp [look_dK, lookK]
@[simp] theorem ty_dictD {ps : List (PyData × PyData)} : tyB "dict" S (.d (.dict ps)) = true := rfl
theorem ix_dicD {k : Int} {y : PyData} (e : lookK kvs k = some y) : gIx (.d (.dict (dK kvs))) (.d (.int k)) S = .ok (.d y) S := by
  unfold gIx
  simp [asM, look_dK]
  unfold lookK at e
  rw [e]
end
section
variable {S : Sto} {n : Nat} {kvs : List (Int × PyData)}
theorem in_dic (k : Int) (h : S[n]? = some (.dic (dK kvs))) : gIn (.d (.int k)) (.c n) S = .ok (.d (.bool (hasK kvs k))) S := by
  unfold gIn isIn
  simp [h, look_has]
theorem notIn_dic (k : Int) (h : S[n]? = some (.dic (dK kvs))) : gNotIn (.d (.int k)) (.c n) S = .ok (.d (.bool (!hasK kvs k))) S := by
  unfold gNotIn isIn
  simp [h, look_has]
theorem get2_dic (k : Int) (y : PyData) (h : S[n]? = some (.dic (dK kvs))) : gGet (.c n) [.d (.int k), .d y] S = .ok (.d ((lookK kvs k).getD y)) S := by
  unfold gGet
  simp [h, look_dK, lookK]
theorem get1_dic (k : Int) (h : S[n]? = some (.dic (dK kvs))) : gGet (.c n) [.d (.int k)] S = .ok (.d ((lookK kvs k).getD .none)) S := by
  unfold gGet
  simp [h, look_dK, lookK]
theorem ix_dic {k : Int} {y : PyData} (h : S[n]? = some (.dic (dK kvs))) (e : lookK kvs k = some y) : gIx (.c n) (.d (.int k)) S = .ok (.d y) S := by
  unfold gIx
  simp [asM, h, look_dK]
  unfold lookK at e
  rw [e]
theorem put_dK {k : Int} {y : PyData} (h : S[n]? = some (.dic (dK kvs))) (hl : kvs.length < sizeLine) : gPut (.c n) (.d (.int k)) (.d y) S = some (S.set n (.dic (dK (putK1 kvs k y)))) := by
  rw [put_dic (k := .inl k) h rfl (by unfold dK; rw [List.length_map]; exact hl), putD_dK]
theorem put_new {k : Int} {y : PyData} (h : hasK kvs k = false) : putK1 kvs k y = kvs ++ [(k, y)] := by unfold putK1; rw [h]; rfl
end
theorem hasK_iff {kvs : List (Int × PyData)} {k : Int} : hasK kvs k = true ↔ k ∈ kvs.map (·.1) := by
  unfold hasK
  rw [List.any_eq_true, List.mem_map]
  constructor
  · rintro ⟨p, h, e⟩
    exact ⟨p, h, by simpa using e⟩
  · rintro ⟨p, h, e⟩
    exact ⟨p, h, by simpa using e⟩
theorem lookK_of {kvs : List (Int × PyData)} (nd : (kvs.map (·.1)).Nodup) {k : Int} {y : PyData} (h : (k, y) ∈ kvs) : lookK kvs k = some y := by
  unfold lookK
  induction kvs with
  | nil => cases h
  | cons p r ih =>
    rw [List.find?_cons]
    rw [List.map_cons, List.nodup_cons] at nd
    rcases List.mem_cons.mp h with rfl | h
    · simp
    · have ne : (p.1 == k) = false := by
        rw [beq_eq_false_iff_ne]
        intro e
        exact nd.1 (List.mem_map.mpr ⟨_, h, e.symm⟩)
      rw [ne]
      exact ih nd.2 h
theorem lookK_mem {kvs : List (Int × PyData)} {k : Int} {y : PyData} (h : lookK kvs k = some y) : (k, y) ∈ kvs := by
  unfold lookK at h
  cases e : kvs.find? fun p => p.1 == k with
  | none => rw [e] at h; cases h
  | some p =>
    rw [e] at h
    have q := List.find?_some e
    have m := List.mem_of_find?_eq_some e
    have e1 : p.1 = k := by simpa using q
    have e2 : p.2 = y := Option.some.inj h
    rw [← e1, ← e2]
    exact m
theorem lookK_none {kvs : List (Int × PyData)} {k : Int} : lookK kvs k = none ↔ hasK kvs k = false := by
  unfold lookK hasK
  rw [Option.map_eq_none_iff, List.find?_eq_none, List.any_eq_false]
end Z
set_option Elab.async false
set_option linter.all false
set_option maxRecDepth 100000
set_option maxHeartbeats 1000000
/-! What is drawn of a pot of digits and a seed (k22 .. k29, k63 .. k66, k76). -/
namespace Z
open PySem PySem.Spec PyProof.Rows L2 MV
theorem hzZ : (1000 : Nat) ≤ sizeLine := by decide
theorem bits_le {i : Int} {n : Nat} (h0 : 0 ≤ i) (h : i < 2 ^ n) : Builtin.Int.intBits i ≤ n := by
  unfold Builtin.Int.intBits
  split
  · omega
  · rename_i c
    have ne : i.natAbs ≠ 0 := by simpa using c
    have h2 : i.natAbs < 2 ^ n := by
      have : ((i.natAbs : Nat) : Int) < ((2 ^ n : Nat) : Int) := by rw [Int.natAbs_of_nonneg h0, Int.natCast_pow]; exact h
      exact Int.ofNat_lt.mp this
    have := (Nat.log2_lt ne).mpr h2
    omega
theorem pow_ok {i : Int} {n k : Nat} (h0 : 0 ≤ i) (h : i < 2 ^ n) (hk : n * k ≤ 2 ^ 20) (T : Sto) : gPow (.d (.int i)) (.d (.int (k : Nat))) T = .ok (.d (.int (i ^ k))) T := by
  have b := bits_le h0 h
  have m : Builtin.Int.intBits i * k ≤ 2 ^ 20 := Nat.le_trans (Nat.mul_le_mul_right _ b) hk
  rw [o_pow ⟨by omega, by
    rw [← Int.natCast_mul]
    have : ((2 : Int) ^ 27) = 134217728 := by decide
    rw [this]
    have : (2 : Nat) ^ 20 = 1048576 := by decide
    omega⟩]
  simp
/-- the state of the pot -/
def HP (l : List PyData) : Prop := ∃ a b c : Int, l = [.int a, .int b, .int c] ∧ (0 ≤ b ∧ b < 2305843009213693951)
theorem pot_ex (ns : List Int) (hl : ns.length ≤ 63) (S : Sto) : ∃ l, m_l_pot [.z (dI ns)] S = .ok (.f (.lst l)) S ∧ HP l := by
  have hz := hzZ
  suffices z : wp (m_l_pot [.z (dI ns)] S) fun v S' => S' = S ∧ ∃ l, v = .f (.lst l) ∧ HP l by
    obtain ⟨v, S', e, rfl, l, rfl, h⟩ := z.ex
    exact ⟨l, e, h⟩
  refine wp_fn rfl ?_
  simp only [List.map_cons, List.map_nil, List.replicate, List.cons_append, List.nil_append]
  have p1 : ∀ T, gPow (.d (.int 10)) (.d (.int 60)) T = .ok (.d (.int (10 ^ 60))) T := fun T => o_pow (by decide +kernel)
  have p3 : ∀ T, gPow (.d (.int 10)) (.d (.int 18)) T = .ok (.d (.int (10 ^ 18))) T := fun T => o_pow (by decide +kernel)
  have mk : ∀ j, j < 63 → mulOk ((10 ^ 60) ^ j) (10 ^ 60) = true := by decide +kernel
  have mg : ∀ j, j < 63 → ((10 ^ 60) ^ j : Int).natAbs.log2 < 20000 := by decide +kernel
  refine wp_seqN fun K kn => ?_
  have go3 : ∀ ρ : Envi, (bTup [bName 2, bName 3, bName 4]).go (.tuple [.int 0, .int 1, .int 11]) ρ = some (((ρ.set 2 (some (.d (.int 0)))).set 3 (some (.d (.int 1)))).set 4 (some (.d (.int 11)))) := fun ρ => rfl
  simp only [e_sAsg, e_Tup, e_aCons, e_aNil, e_K, bind_ok, th_d, datas_d, datas_nil, Option.map_some, List.length_cons, List.length_nil, Nat.reduceAdd, Nat.reduceLeDiff, if_true, go3, wp_ok, List.set_cons_zero, List.set_cons_succ]
  refine kn _ _ ?_
  clear kn K
  refine wp_seq fun K kn kr => ?_
  have src : iSeq (evSl (evV 0) (oNo) (oYes (evK (.int 63)))) [some (.z (dI ns)), none, some (.d (.int 0)), some (.d (.int 1)), some (.d (.int 11))] S = .ok ⟨dI ns, []⟩ S := by
    simp [cut_to]
    rw [List.take_of_length_le (by simp; omega)]
  refine wp_forK (fun (pre : List Int) ρ T => T = S ∧ ∃ o1 dg sd, (0 ≤ sd ∧ sd < 2305843009213693951) ∧ ∃ k, k ≤ pre.length ∧ ρ = [some (.z (dI ns)), o1, some (.d (.int dg)), some (.d (.int ((10 ^ 60) ^ k))), some (.d (.int sd))]) ns PyData.int (s := ⟨dI ns, []⟩) (S1 := S) src rfl (fun _ _ _ _ => gok_nil) ⟨rfl, none, 0, 11, by decide, 0, Nat.le_refl _, rfl⟩ ?_ ?_
  · rintro pre x post ρ T e ⟨rfl, o1, dg, sd, sb, k, kl, rfl⟩
    have pl : pre.length < 63 := by
      have := congrArg List.length e
      simp at this
      omega
    refine ⟨_, rfl, fun K1 k1 kr1 => ?_⟩
    refine wp_seqN fun K2 k2 => ?_
    have xm := mod_in x 2305843009213693951 (by decide)
    have md : ∀ (y : Int), gMod (.d (.int y)) (.d (.int 2305843009213693951)) T = .ok (.d (.int (y % 2305843009213693951))) T := fun y => o_mod (by decide)
    have ml : gMul (.d (.int sd)) (.d (.int 48271)) T = .ok (.d (.int (sd * 48271))) T := o_mulR (by decide) (by decide)
    have pw3 := pow_ok (i := sd * 48271 + x % 2305843009213693951 + 13) (n := 80) (k := 3) (by omega) (by omega) (by decide) T
    have c3 : ((3 : Nat) : Int) = 3 := rfl
    rw [c3] at pw3
    simp only [List.set_cons_zero, List.set_cons_succ, e_sSet, e_2, e_V, e_K, List.getElem?_cons_zero, List.getElem?_cons_succ, bind_ok, th_d, ml, md, o_add, pw3, wp_ok]
    refine k2 _ _ ?_
    clear k2 K2
    have sm := mod_in ((sd * 48271 + x % 2305843009213693951 + 13) ^ 3) 2305843009213693951 (by decide)
    generalize (sd * 48271 + x % 2305843009213693951 + 13) ^ 3 % 2305843009213693951 = s' at sm
    have ab := fun T => g_abs (i := x) (S := T)
    generalize (if x < 0 then -x else x) = A at ab
    by_cases c : (10 ^ 18 : Int) ≤ A
    · have am := mod_in A (10 ^ 60) (by decide +kernel)
      have p60 : (0 : Int) < 10 ^ 60 := by decide +kernel
      have mm := mk k (by omega)
      have ma := mg k (by omega)
      have wA : mulOk (A % 10 ^ 60) ((10 ^ 60) ^ k) = true := by
        refine decide_eq_true (.inr ?_)
        have : (A % 10 ^ 60).natAbs.log2 ≤ 250 := by
          have h1 : (A % 10 ^ 60).natAbs < 2 ^ 200 := by
            have h2 : ((A % 10 ^ 60).natAbs : Int) = A % 10 ^ 60 := Int.natAbs_of_nonneg am.1
            have h3 : (10 ^ 60 : Int) < ((2 ^ 200 : Nat) : Int) := by decide +kernel
            exact Int.ofNat_lt.mp (by rw [h2]; exact Int.lt_trans am.2 h3)
          by_cases z : (A % 10 ^ 60).natAbs = 0
          · rw [z]; decide
          · have := (Nat.log2_lt z).mpr h1
            omega
        omega
      simp only [e_sIf, e_tst, e_2, e_Call, e_aCons, e_aNil, e_V, e_K, List.getElem?_cons_zero, List.getElem?_cons_succ, bind_ok, th_d, ab, p3, o_ge, decide_eq_true c, if_true]
      refine wp_seqN fun K2 k2 => ?_
      simp only [e_sSet, e_2, e_Call, e_aCons, e_aNil, e_V, e_K, List.getElem?_cons_zero, List.getElem?_cons_succ, bind_ok, th_d, ab, p1, o_mod p60, o_mul wA, o_add, wp_ok, List.set_cons_zero, List.set_cons_succ]
      refine k2 _ _ ?_
      simp only [e_sSet, e_2, e_V, e_K, List.getElem?_cons_zero, List.getElem?_cons_succ, bind_ok, th_d, p1, o_mul mm, wp_ok, List.set_cons_zero, List.set_cons_succ]
      exact k1 _ _ ⟨rfl, some (.d (.int x)), dg + A % 10 ^ 60 * (10 ^ 60) ^ k, s', sm, k + 1, by simp; omega, by rw [show ((10 ^ 60 : Int) ^ (k + 1)) = (10 ^ 60) ^ k * 10 ^ 60 from Int.pow_succ _ _]⟩
    · simp only [e_sIf, e_tst, e_2, e_Call, e_aCons, e_aNil, e_V, e_K, List.getElem?_cons_zero, List.getElem?_cons_succ, bind_ok, th_d, ab, p3, o_ge, decide_eq_false c, Bool.false_eq_true, if_false, e_sNil, wp_ok]
      exact k1 _ _ ⟨rfl, some (.d (.int x)), _, s', sm, k, by simp; omega, rfl⟩
  · rintro ρ T ⟨rfl, o1, dg, sd, sb, k, kl, rfl⟩
    refine kn _ _ ?_
    simp only [e_sRt, e_Lst, e_aCons, e_aNil, e_V, e_K, List.getElem?_cons_zero, List.getElem?_cons_succ, bind_ok, th_d, datas_d, datas_nil, Option.map_some, List.length_cons, List.length_nil, Nat.reduceAdd, Nat.reduceLeDiff, if_true, wp_ok]
    exact wp_out_f ⟨by simp, _, rfl, _, _, _, rfl, sb⟩
theorem take_ex {S : Sto} {n : Nat} {l : List PyData} {m : Int} (hn : S[n]? = some (.lst l)) (hl : HP l) (hm : 0 < m) (hm2 : m < 1000000) : ∃ l' r, m_l_take [.c n, .d (.int m)] S = .ok (.d (.int r)) (S.set n (.lst l')) ∧ HP l' ∧ 0 ≤ r ∧ r < m := by
  obtain ⟨a, b, c, rfl, h1, h2⟩ := hl
  suffices z : wp (m_l_take [.c n, .d (.int m)] S) fun v S' => ∃ l' r, v = .d (.int r) ∧ S' = S.set n (.lst l') ∧ HP l' ∧ 0 ≤ r ∧ r < m by
    obtain ⟨v, S', e, l', r, rfl, rfl, q⟩ := z.ex
    exact ⟨l', r, e, q⟩
  refine wp_fn rfl ?_
  simp only [List.map_cons, List.map_nil, List.replicate, List.cons_append, List.nil_append]
  refine wp_seq fun K kn kr => ?_
  have hlt := st_lt hn
  have tk : ∀ x : Cell, List.take S.length (S.set n x) = S.set n x := fun x => List.take_of_length_le (by simp)
  have i0 : gIx (.c n) (.d (.int 0)) S = .ok (.d (.int a)) S := by rw [o_ixC hn, at_0]
  by_cases h : 0 < a
  · have p0 := put3_0 (x := .int a) (y := .int b) (z := .int c) (w := .int (a / m)) hn
    simp only [e_sIf, e_tst, e_2, e_V, e_K, List.getElem?_cons_zero, List.getElem?_cons_succ, bind_ok, th_c, th_d, i0, o_gt, decide_eq_true h, if_true]
    refine wp_seq fun K2 k2 k2r => ?_
    simp only [e_sSet, e_2, e_V, e_K, List.getElem?_cons_zero, List.getElem?_cons_succ, bind_ok, th_c, th_d, i0, o_mod hm, wp_ok, List.set_cons_zero, List.set_cons_succ]
    refine k2 _ _ ?_
    refine wp_seq fun K3 k3 k3r => ?_
    simp only [e_sPut, e_2, e_V, e_K, List.getElem?_cons_zero, List.getElem?_cons_succ, bind_ok, th_c, th_d, i0, o_div hm (by omega), p0, wp_ok]
    refine k3 _ _ ?_
    simp only [e_sRt, e_V, List.getElem?_cons_zero, List.getElem?_cons_succ, bind_ok, th_d, wp_ok]
    refine kr _ _ (wp_out_d ?_)
    exact ⟨_, _, rfl, tk _, ⟨_, _, _, rfl, h1, h2⟩, (mod_in _ _ hm).1, (mod_in _ _ hm).2⟩
  · simp only [e_sIf, e_tst, e_2, e_V, e_K, List.getElem?_cons_zero, List.getElem?_cons_succ, bind_ok, th_c, th_d, i0, o_gt, decide_eq_false h, Bool.false_eq_true, if_false, e_sNil, wp_ok]
    refine kn _ _ ?_
    clear kn kr K
    have i2 : gIx (.c n) (.d (.int 2)) S = .ok (.d (.int c)) S := by rw [o_ixC hn, at_2]
    have p2 := put3_2 (x := .int a) (y := .int b) (z := .int c) (w := .int (c + 1)) hn
    refine wp_seqN fun K kn => ?_
    simp only [e_sPut, e_2, e_V, e_K, List.getElem?_cons_zero, List.getElem?_cons_succ, bind_ok, th_c, th_d, i2, o_add, p2, wp_ok]
    refine kn _ _ ?_
    clear kn K
    have n1 := st_upd (k' := .lst [.int a, .int b, .int (c + 1)]) hn
    generalize hS1 : S.set n (.lst [.int a, .int b, .int (c + 1)]) = S1 at *
    have j1 : gIx (.c n) (.d (.int 1)) S1 = .ok (.d (.int b)) S1 := by rw [o_ixC n1, at_1]
    have j2 : gIx (.c n) (.d (.int 2)) S1 = .ok (.d (.int (c + 1))) S1 := by rw [o_ixC n1, at_2]
    have ml : gMul (.d (.int b)) (.d (.int 48271)) S1 = .ok (.d (.int (b * 48271))) S1 := o_mulR (by decide) (by decide)
    have ml2 : gMul (.d (.int 104729)) (.d (.int (c + 1))) S1 = .ok (.d (.int (104729 * (c + 1)))) S1 := o_mulL (by decide) (by decide)
    have md : ∀ (y : Int), gMod (.d (.int y)) (.d (.int 2305843009213693951)) S1 = .ok (.d (.int (y % 2305843009213693951))) S1 := fun y => o_mod (by decide)
    have bm := mod_in (b * 48271 + 104729 * (c + 1) + 11) 2305843009213693951 (by decide)
    refine wp_seqN fun K kn => ?_
    simp only [e_sPut, e_2, e_V, e_K, List.getElem?_cons_zero, List.getElem?_cons_succ, bind_ok, th_c, th_d, j1, j2, ml, ml2, o_add, md]
    generalize (b * 48271 + 104729 * (c + 1) + 11) % 2305843009213693951 = b' at bm
    have p1 := put3_1 (x := .int a) (y := .int b) (z := .int (c + 1)) (w := .int b') n1
    simp only [p1, wp_ok]
    refine kn _ _ ?_
    clear kn K
    have n2 := st_upd (k' := .lst [.int a, .int b', .int (c + 1)]) n1
    have es : S1.set n (.lst [.int a, .int b', .int (c + 1)]) = S.set n (.lst [.int a, .int b', .int (c + 1)]) := by rw [← hS1, List.set_set]
    rw [es] at n2 ⊢
    have j3 : gIx (.c n) (.d (.int 1)) (S.set n (.lst [.int a, .int b', .int (c + 1)])) = .ok (.d (.int b')) (S.set n (.lst [.int a, .int b', .int (c + 1)])) := by rw [o_ixC n2, at_1]
    have pw5 := pow_ok (i := b') (n := 62) (k := 5) (by omega) (by omega) (by decide) (S.set n (.lst [.int a, .int b', .int (c + 1)]))
    have c5 : ((5 : Nat) : Int) = 5 := rfl
    rw [c5] at pw5
    have md2 : ∀ (y : Int) (U : Sto), gMod (.d (.int y)) (.d (.int 2305843009213693921)) U = .ok (.d (.int (y % 2305843009213693921))) U := fun y U => o_mod (by decide)
    have dv : ∀ (y : Int) (U : Sto), gDiv (.d (.int y)) (.d (.int 1009)) U = .ok (.d (.int (y / 1009))) U := fun y U => o_div (by decide) (by decide)
    simp only [e_sRt, e_2, e_V, e_K, List.getElem?_cons_zero, List.getElem?_cons_succ, bind_ok, th_c, th_d, j3, pw5, md2, dv, o_mod hm, wp_ok]
    refine wp_out_d ?_
    exact ⟨_, _, rfl, tk _, ⟨_, _, _, rfl, by omega⟩, (mod_in _ _ hm).1, (mod_in _ _ hm).2⟩
end Z
set_option Elab.async false
set_option linter.all false
set_option maxRecDepth 100000
set_option maxHeartbeats 1000000
/-! Family I: sets of places as numbers. -/
namespace Z
open PySem PySem.Spec PyProof.Rows L2 MV
def pw (i : Nat) : Int := ((2 ^ i : Nat) : Int)
theorem pw_pos (i : Nat) : 0 < pw i := by
  have := Nat.two_pow_pos i
  unfold pw
  omega
theorem pw_inj {i j : Nat} (h : pw i = pw j) : i = j := by
  unfold pw at h
  exact (Nat.pow_right_inj (by decide)).mp (by omega : 2 ^ i = 2 ^ j)
def pws (l : List Nat) : List Int := l.map pw
theorem pws_snoc (l : List Nat) (k : Nat) : pws (l ++ [k]) = pws l ++ [pw k] := by simp [pws]
theorem pws_len (l : List Nat) : (pws l).length = l.length := by simp [pws]
theorem hz64 : (1000 : Nat) ≤ sizeLine := by decide
theorem an_nn (a b : Nat) (T : Sto) : gAnd (.d (.int (a : Nat))) (.d (.int (b : Nat))) T = .ok (.d (.int ((a &&& b : Nat) : Int))) T := by
  show Res.ok (Val.d (.int (Builtin.bitAnd _ _))) T = _
  rw [band_nn]
theorem or_nn (a b : Nat) (T : Sto) : gOr (.d (.int (a : Nat))) (.d (.int (b : Nat))) T = .ok (.d (.int ((a ||| b : Nat) : Int))) T := by
  show Res.ok (Val.d (.int (Builtin.bitOr _ _))) T = _
  rw [bor_nn]
theorem xo_nn (a b : Nat) (T : Sto) : gXor (.d (.int (a : Nat))) (.d (.int (b : Nat))) T = .ok (.d (.int ((a ^^^ b : Nat) : Int))) T := by
  show Res.ok (Val.d (.int (Builtin.bitXor _ _))) T = _
  rw [bxor_nn]
theorem an_not (a b : Nat) (T : Sto) : gAnd (.d (.int (a : Nat))) (.d (.int (Builtin.bitNot (b : Nat)))) T = .ok (.d (.int ((anot a b : Nat) : Int))) T := by
  show Res.ok (Val.d (.int (Builtin.bitAnd _ _))) T = _
  rw [bandnot_nn]
/-- the dict of those tied to each -/
def nbD (n : Nat) (mk : Nat → Nat) : List (Int × PyData) := (List.range n).map fun i => (pw i, .int (mk i : Nat))
theorem nbD_fst (n : Nat) (mk : Nat → Nat) : (nbD n mk).map (·.1) = pws (List.range n) := by
  unfold nbD pws
  rw [List.map_map]
  rfl
theorem pws_nodup {l : List Nat} (h : l.Nodup) : (pws l).Nodup := by
  unfold pws List.Nodup
  rw [List.pairwise_map]
  exact List.Pairwise.imp (fun h e => h (pw_inj e)) h
theorem nbD_look {n : Nat} {mk : Nat → Nat} {i : Nat} (h : i < n) : lookK (nbD n mk) (pw i) = some (.int (mk i : Nat)) := by
  refine lookK_of (by rw [nbD_fst]; exact pws_nodup List.nodup_range) ?_
  unfold nbD
  exact List.mem_map.mpr ⟨i, List.mem_range.mpr h, rfl⟩
theorem nbD_ix {n : Nat} {mk : Nat → Nat} {i : Nat} (h : i < n) (S : Sto) : gIx (.d (.dict (dK (nbD n mk)))) (.d (.int (pw i))) S = .ok (.d (.int (mk i : Nat))) S := ix_dicD (nbD_look h)
/-- all that are tied to one of x -/
def besM (n : Nat) (mk : Nat → Nat) (x : Nat) : Nat := maskOf n fun j => (bitsL n x).any fun i => (mk i).testBit j
theorem tb_bes {n : Nat} {mk : Nat → Nat} {x j : Nat} (hmk : ∀ i, i < n → mk i < 2 ^ n) (hx : x < 2 ^ n) : (besM n mk x).testBit j = true ↔ ∃ i, x.testBit i = true ∧ (mk i).testBit j = true := by
  unfold besM
  rw [tb_mask, Bool.and_eq_true, decide_eq_true_iff, List.any_eq_true]
  constructor
  · rintro ⟨_, i, hi, h⟩
    exact ⟨i, (mem_bitsL.mp hi).2, h⟩
  · rintro ⟨i, h1, h2⟩
    have hi := bit_lt hx h1
    exact ⟨bit_lt (hmk i hi) h2, i, mem_bitsL.mpr ⟨hi, h1⟩, h2⟩
theorem mem_split_bits {n x i : Nat} {pre post : List Nat} (e : bitsL n x = pre ++ i :: post) : i < n ∧ x.testBit i = true := mem_bitsL.mp (by rw [e]; simp)
/-- to which one comes from some, through a room alone -/
inductive RC (mk : Nat → Nat) (room start : Nat) : Nat → Prop
  | base {j : Nat} : start.testBit j = true → RC mk room start j
  | step {i j : Nat} : RC mk room start i → (mk i).testBit j = true → room.testBit j = true → RC mk room start j
theorem bits_more {n f w : Nat} (hw : w < 2 ^ n) (h0 : w ≠ 0) (hd : ∀ j, w.testBit j = true → f.testBit j = false) : (bitsL n f).length + 1 ≤ (bitsL n (f ||| w)).length := by
  obtain ⟨i, hi⟩ := Nat.exists_testBit_of_ne_zero h0
  have nd : (i :: bitsL n f).Nodup := by
    rw [List.nodup_cons]
    refine ⟨fun m => ?_, bitsL_nodup _ _⟩
    have := (mem_bitsL.mp m).2
    rw [hd i hi] at this
    cases this
  refine sub_len nd fun a ha => ?_
  rcases List.mem_cons.mp ha with rfl | ha
  · exact mem_bitsL.mpr ⟨bit_lt hw hi, by rw [Nat.testBit_or, hi]; simp⟩
  · obtain ⟨h1, h2⟩ := mem_bitsL.mp ha
    exact mem_bitsL.mpr ⟨h1, by rw [Nat.testBit_or, h2]; simp⟩
open Classical in
noncomputable def comeM (n : Nat) (mk : Nat → Nat) (start room : Nat) : Nat := maskOf n fun j => decide (RC mk room start j)
theorem RC.lt {n : Nat} {mk : Nat → Nat} {room start j : Nat} (hr : room < 2 ^ n) (hs : start < 2 ^ n) (h : RC mk room start j) : j < n := by
  cases h with
  | base h => exact bit_lt hs h
  | step _ _ h => exact bit_lt hr h
open Classical in
theorem tb_come {n : Nat} {mk : Nat → Nat} {room start j : Nat} (hr : room < 2 ^ n) (hs : start < 2 ^ n) : (comeM n mk start room).testBit j = true ↔ RC mk room start j := by
  unfold comeM
  rw [tb_mask, Bool.and_eq_true, decide_eq_true_iff, decide_eq_true_iff]
  exact ⟨fun h => h.2, fun h => ⟨h.lt hr hs, h⟩⟩
end Z
set_option Elab.async false
set_option linter.all false
set_option maxRecDepth 100000
set_option maxHeartbeats 1000000
/-! Family I: who is tied to whom, as numbers; twins. -/
namespace Z
open PySem PySem.Spec PyProof.Rows L2 MV
theorem enum_dI (ns : List Int) : enumD (dI ns) = ns.zipIdx.map fun p => .tuple [.int (p.2 : Nat), .int p.1] := by
  unfold enumD
  rw [List.zipIdx_map, List.map_map]
  rfl
/-! dict of pairs -/
theorem pairs_kvs : ∀ kvs : List (Int × PyData), pairsOf (kvs.map fun p => .tuple [.int p.1, p.2]) = some (kvs.map fun p => (Sum.inl p.1, p.2))
  | [] => rfl
  | a :: R => by
    have ih := pairs_kvs R
    rw [List.map_cons, List.map_cons, MV.pairsOf, ih]
    rfl
theorem hasK_false {kvs : List (Int × PyData)} {k : Int} (h : k ∉ kvs.map (·.1)) : hasK kvs k = false := by
  cases q : hasK kvs k with
  | false => rfl
  | true => exact (h (hasK_iff.mp q)).elim
theorem putAll_kvs : ∀ (kvs acc : List (Int × PyData)), ((acc ++ kvs).map (·.1)).Nodup → putAll (dK acc) (kvs.map fun p => (Sum.inl p.1, p.2)) = dK (acc ++ kvs)
  | [], acc, _ => by simp [MV.putAll]
  | a :: R, acc, h => by
    have h2 : a.1 ∉ acc.map (·.1) := fun m => by
      rw [List.map_append, List.nodup_append] at h
      exact h.2.2 a.1 m a.1 (by simp) rfl
    rw [List.map_cons, MV.putAll, putD_dK, put_new (hasK_false h2), putAll_kvs R (acc ++ [a]) (by simpa using h)]
    simp
theorem dict_kvs {kvs : List (Int × PyData)} (nd : (kvs.map (·.1)).Nodup) (S : Sto) : gDict [.d (.list (kvs.map fun p => .tuple [.int p.1, p.2]))] S = .ok (.f (.dic (dK kvs))) S := by
  have h := putAll_kvs kvs [] (by simpa using nd)
  unfold gDict
  dsimp only
  rw [asM_l, asL_l]
  dsimp only [Option.bind]
  rw [pairs_kvs]
  dsimp only
  rw [show ([] : List (PyData × PyData)) = dK [] from rfl, h]
  rfl
/-! places and their numbers -/
def pl (P : List Int) (i : Nat) : Int := P.getD i 0
theorem pl_mem {P : List Int} {i : Nat} (h : i < P.length) : pl P i ∈ P := by
  unfold pl
  rw [List.getD_eq_getElem?_getD, List.getElem?_eq_getElem h]
  exact List.getElem_mem h
theorem pl_get {P : List Int} {i : Nat} (h : i < P.length) : P[i]? = some (pl P i) := by
  unfold pl
  rw [List.getD_eq_getElem?_getD, List.getElem?_eq_getElem h]
  rfl
theorem pl_inj {P : List Int} (nd : P.Nodup) {i j : Nat} (hi : i < P.length) (hj : j < P.length) (h : pl P i = pl P j) : i = j := by
  have h1 := pl_get hi
  rw [h, ← pl_get hj] at h1
  exact (List.getElem?_inj hi nd).mp h1
theorem pl_ex {P : List Int} {a : Int} (h : a ∈ P) : ∃ i, i < P.length ∧ pl P i = a := by
  obtain ⟨i, hi, e⟩ := List.mem_iff_getElem.mp h
  refine ⟨i, hi, ?_⟩
  have := pl_get hi
  rw [List.getElem?_eq_getElem hi, e] at this
  exact (Option.some.inj this).symm
def bitD (P : List Int) : List (Int × PyData) := P.zipIdx.map fun p => (p.1, .int (pw p.2))
theorem bitD_fst (P : List Int) : (bitD P).map (·.1) = P := by
  unfold bitD
  rw [List.map_map]
  have : ((fun x : Int × PyData => x.1) ∘ fun p : Int × Nat => (p.1, PyData.int (pw p.2))) = Prod.fst := rfl
  rw [this]
  exact List.zipIdx_map_fst ..
theorem bitD_look {P : List Int} (nd : P.Nodup) {i : Nat} (h : i < P.length) : lookK (bitD P) (pl P i) = some (.int (pw i)) := by
  refine lookK_of (by rw [bitD_fst]; exact nd) ?_
  unfold bitD
  refine List.mem_map.mpr ⟨(pl P i, i), ?_, rfl⟩
  rw [List.mem_iff_getElem?]
  exact ⟨i, by rw [List.getElem?_zipIdx, pl_get h]; simp⟩
theorem bitD_vals (P : List Int) : (dK (bitD P)).map (·.2) = (pws (List.range P.length)).map .int := by
  unfold dK bitD pws
  rw [List.map_map, List.map_map, List.map_map]
  have h : ∀ (P : List Int) (k : Nat), (P.zipIdx k).map (fun p => PyData.int (pw p.2)) = (List.range' k P.length).map (fun i => PyData.int (pw i)) := by
    intro P
    induction P with
    | nil => intro k; rfl
    | cons x P ih => intro k; rw [List.zipIdx_cons, List.map_cons, ih, List.length_cons, List.range'_succ, List.map_cons]
  rw [List.range_eq_range']
  exact h P 0
/-- who is tied, by a list of ties -/
def tied2 (T : List (Int × Int)) (a b : Int) : Bool := decide ((a, b) ∈ T ∨ (b, a) ∈ T)
def adjM (P : List Int) (T : List (Int × Int)) (i : Nat) : Nat := maskOf P.length fun j => tied2 T (pl P i) (pl P j)
theorem adj_lt (P : List Int) (T : List (Int × Int)) (i : Nat) : adjM P T i < 2 ^ P.length := mask_lt _ _
theorem tb_adj {P : List Int} {T : List (Int × Int)} {i j : Nat} : (adjM P T i).testBit j = true ↔ j < P.length ∧ ((pl P i, pl P j) ∈ T ∨ (pl P j, pl P i) ∈ T) := by
  unfold adjM tied2
  rw [tb_mask, Bool.and_eq_true, decide_eq_true_iff, decide_eq_true_iff]
def updN (mk : Nat → Nat) (i v : Nat) : Nat → Nat := fun k => if k = i then v else mk k
theorem nbD_put {n : Nat} {mk : Nat → Nat} {i v : Nat} (h : i < n) : putK1 (nbD n mk) (pw i) (.int (v : Nat)) = nbD n (updN mk i v) := by
  have hk : hasK (nbD n mk) (pw i) = true := hasK_iff.mpr (by rw [nbD_fst]; exact List.mem_map.mpr ⟨i, List.mem_range.mpr h, rfl⟩)
  unfold putK1
  rw [if_pos hk]
  unfold nbD
  rw [List.map_map]
  refine List.map_congr_left fun k _ => ?_
  show (if pw k = pw i then _ else _) = _
  unfold updN
  by_cases e : k = i
  · subst e
    rw [if_pos rfl, if_pos rfl]
  · rw [if_neg (fun q => e (pw_inj q)), if_neg e]
theorem nbD_len (n : Nat) (mk : Nat → Nat) : (nbD n mk).length = n := by simp [nbD]
theorem nbD_congr {n : Nat} {mk mk' : Nat → Nat} (h : ∀ i, i < n → mk i = mk' i) : nbD n mk = nbD n mk' := List.map_congr_left fun i hi => by rw [h i (List.mem_range.mp hi)]
theorem shl1 (k : Nat) (h : k ≤ 1000) (T : Sto) : gShl (.d (.int 1)) (.d (.int (k : Nat))) T = .ok (.d (.int (pw k))) T := by
  unfold gShl
  rw [o_int, if_pos (decide_eq_true ⟨by omega, by omega, by decide⟩)]
  unfold pw
  rw [PySem.W.kbt_cast]
  simp
end Z
set_option Elab.async false
set_option linter.all false
set_option maxRecDepth 100000
set_option maxHeartbeats 1000000
/-! Places and pairs drawn of a pot. -/
namespace Z
open PySem PySem.Spec PyProof.Rows L2 MV
theorem ty_lZ {T : Sto} {n : Nat} {q : List PyData} (h : T[n]? = some (.lst q)) : tyB "list" T (.c n) = true := by simp [tyB, kind, h]
/-- places drawn -/
theorem places_ex {S : Sto} {i : Nat} {l : List PyData} {many : Nat} (hn : S[i]? = some (.lst l)) (hl : HP l) (hm : many ≤ 30) :
    ∃ P l', m_l_places [.c i, .d (.int (many : Nat))] S = .ok (.f (.lst (dI P))) (S.set i (.lst l')) ∧ HP l' ∧ P.length = many ∧ Rise P ∧ ∀ a ∈ P, 0 ≤ a ∧ a ≤ 1000 := by
  have hz := hzZ
  have hlt := st_lt hn
  suffices z : wp (m_l_places [.c i, .d (.int (many : Nat))] S) fun v S' => ∃ P l', v = .f (.lst (dI P)) ∧ S' = S.set i (.lst l') ∧ HP l' ∧ P.length = many ∧ Rise P ∧ ∀ a ∈ P, 0 ≤ a ∧ a ≤ 1000 by
    obtain ⟨v, S', e, P, l', rfl, rfl, q⟩ := z.ex
    exact ⟨P, l', e, q⟩
  refine wp_fn rfl ?_
  simp only [List.map_cons, List.map_nil, List.replicate, List.cons_append, List.nil_append]
  obtain ⟨l1, wd, e1, hl1, w0, w1⟩ := take_ex hn hl (m := 3) (by decide) (by decide)
  obtain ⟨l2, at0, e2, hl2, a0, a1⟩ := take_ex (st_upd (k' := .lst l1) hn) hl1 (m := 4) (by decide) (by decide)
  rw [List.set_set] at e2
  refine wp_seqN fun K kn => ?_
  simp only [e_sSet, e_Call, e_aCons, e_aNil, e_V, e_K, List.getElem?_cons_zero, List.getElem?_cons_succ, bind_ok, th_c, th_d, e1, wp_ok, List.set_cons_zero, List.set_cons_succ]
  refine kn _ _ ?_
  clear kn K
  refine wp_seqN fun K kn => ?_
  simp only [e_sSet, e_Call, e_aCons, e_aNil, e_V, e_K, List.getElem?_cons_zero, List.getElem?_cons_succ, bind_ok, th_c, th_d, e2, wp_ok, List.set_cons_zero, List.set_cons_succ]
  refine kn _ _ ?_
  clear kn K
  refine wp_seqN fun K kn => ?_
  simp only [e_sCell, e_Lst, e_aNil, bind_ok, datas_nil, List.length_nil, Nat.zero_le, if_true, wp_ok, List.set_cons_zero, List.set_cons_succ]
  refine kn _ _ ?_
  clear kn K
  rw [show (S.set i (.lst l2)).length = S.length by simp]
  refine wp_seqN fun K kn => ?_
  have rg : gRange1 [.d (.int (many : Nat))] = some ⟨iota 0 many, []⟩ := by
    have := e_range1 (j := (many : Int)) (by omega) (by omega)
    rw [this]
    rfl
  refine wp_forK (fun (pre : List Nat) ρ T => ∃ at' P l o5, ρ = [some (.c i), some (.d (.int (many : Nat))), some (.d (.int wd)), some (.d (.int at')), some (.c S.length), o5] ∧ T = S.set i (.lst l) ++ [.lst (dI P)] ∧ HP l ∧ P.length = pre.length ∧ Rise P ∧ (∀ a ∈ P, 0 ≤ a ∧ a < at') ∧ 0 ≤ at' ∧ at' ≤ 4 + 5 * pre.length) (List.range many) (fun k => .int (0 + (k : Int))) (s := ⟨iota 0 many, []⟩) (S1 := S.set i (.lst l2) ++ [.lst []]) (by
    simp only [e_iBy, e_aCons, e_aNil, e_V, List.getElem?_cons_zero, List.getElem?_cons_succ, bind_ok, th_d, rg]) rfl (fun _ _ _ _ => gok_nil) ⟨at0, [], l2, none, rfl, rfl, hl2, rfl, List.Pairwise.nil, by simp, a0, by simp; omega⟩ ?_ ?_
  · rintro pre k post ρ T e ⟨at', P, l, o5, rfl, rfl, hl, pl, pr, pb, b0, b1⟩
    have pn : pre.length < 30 := by
      have := congrArg List.length e
      simp at this
      omega
    refine ⟨_, rfl, fun K1 k1 kr1 => ?_⟩
    have hc : (S.set i (.lst l) ++ [Cell.lst (dI P)])[S.length]? = some (.lst (dI P)) := st_loc
    have ap := app_c (y := .int at') hc (by simp; omega)
    rw [st_set_loc, show dI P ++ [.int at'] = dI (P ++ [at']) by simp] at ap
    refine wp_seqN fun K2 k2 => ?_
    simp only [List.set_cons_zero, List.set_cons_succ, e_sEx, e_Mt, e_V, e_aCons, e_aNil, List.getElem?_cons_zero, List.getElem?_cons_succ, bind_ok, th_c, th_d, ty_lZ hc, if_true, ap, wp_ok]
    refine k2 _ _ ?_
    clear k2 K2
    obtain ⟨l3, r3, e3, hl3, c0, c1⟩ := take_ex (S := S.set i (.lst l) ++ [Cell.lst (dI (P ++ [at']))]) (st_own hlt) hl (m := 2) (by decide) (by decide)
    rw [st_set_own hlt] at e3
    obtain ⟨l4, r4, e4, hl4, d0, d1⟩ := take_ex (S := S.set i (.lst l3) ++ [Cell.lst (dI (P ++ [at']))]) (st_own hlt) hl3 (m := 4) (by decide) (by decide)
    rw [st_set_own hlt] at e4
    obtain ⟨sp, hsp, s0, s1⟩ : ∃ sp : Int, atI [PyData.int 0, .int r3, .int r4] wd = some (.int sp) ∧ 0 ≤ sp ∧ sp ≤ 3 := by
      have : wd = 0 ∨ wd = 1 ∨ wd = 2 := by omega
      rcases this with rfl | rfl | rfl
      · exact ⟨0, rfl, by decide, by decide⟩
      · exact ⟨r3, rfl, c0, by omega⟩
      · exact ⟨r4, rfl, d0, by omega⟩
    simp only [e_sSet, e_2, e_Lst, e_Call, e_aCons, e_aNil, e_V, e_K, List.getElem?_cons_zero, List.getElem?_cons_succ, bind_ok, th_c, th_d, th_f, e3, e4, datas_d, datas_nil, Option.map_some, List.length_cons, List.length_nil, Nat.reduceAdd, Nat.reduceLeDiff, if_true, data_lst, o_ixL, hsp, o_add, wp_ok, List.set_cons_zero, List.set_cons_succ]
    refine k1 _ _ ⟨at' + 1 + sp, P ++ [at'], l4, some (.d (.int (0 + (k : Int)))), rfl, rfl, hl4, by simp [pl], ?_, fun a ha => ?_, by omega, by simp; omega⟩
    · exact List.pairwise_append.mpr ⟨pr, List.pairwise_singleton _ _, fun a ha b hb => by rw [List.mem_singleton.mp hb]; exact (pb a ha).2⟩
    · rcases List.mem_append.mp ha with ha | ha
      · have := pb a ha
        omega
      · rw [List.mem_singleton.mp ha]
        omega
  · rintro ρ T ⟨at', P, l, o5, rfl, rfl, hl, pl, pr, pb, b0, b1⟩
    refine kn _ _ ?_
    have hc : (S.set i (.lst l) ++ [Cell.lst (dI P)])[S.length]? = some (.lst (dI P)) := st_loc
    simp only [e_sRt, e_V, List.getElem?_cons_zero, List.getElem?_cons_succ, bind_ok, wp_ok]
    rw [List.length_range] at pl b1
    show wp (out S.length (S.set i (.lst l) ++ [Cell.lst (dI P)]) (.c S.length)) _
    rw [out_c (Nat.lt_irrefl _) hc, wp_ok]
    exact ⟨P, l, rfl, by simp, hl, pl, pr, fun a ha => by have := pb a ha; omega⟩
end Z
set_option Elab.async false
set_option linter.all false
set_option maxRecDepth 100000
set_option maxHeartbeats 1000000
/-! Pairs and webs drawn of a pot. -/
namespace Z
open PySem PySem.Spec PyProof.Rows L2 MV
/-- pairs of numbers below many, no more than b -/
def GP (many b : Nat) (qs : List (Int × Int)) : Prop := qs.length ≤ b ∧ ∀ p ∈ qs, 0 ≤ p.1 ∧ p.1 < p.2 ∧ p.2 < (many : Int)
theorem GP.up {many b c : Nat} {qs : List (Int × Int)} (h : GP many b qs) (le : b ≤ c) : GP many c qs := ⟨Nat.le_trans h.1 le, h.2⟩
theorem GP.app {many b c : Nat} {qs rs : List (Int × Int)} (h : GP many b qs) (k : GP many c rs) : GP many (b + c) (qs ++ rs) := ⟨by have := h.1; have := k.1; rw [List.length_append]; omega, fun p hp => by
  rcases List.mem_append.mp hp with hp | hp
  · exact h.2 p hp
  · exact k.2 p hp⟩
theorem GP.map {many b : Nat} {f : Nat → Int × Int} {xs : List Nat} (hl : xs.length ≤ b) (h : ∀ k ∈ xs, 0 ≤ (f k).1 ∧ (f k).1 < (f k).2 ∧ (f k).2 < (many : Int)) : GP many b (xs.map f) := ⟨by rw [List.length_map]; exact hl, fun p hp => by
  obtain ⟨k, hk, rfl⟩ := List.mem_map.mp hp
  exact h k hk⟩
section
variable {S : Sto} {i : Nat} {many : Nat}
theorem r1_eq (n : Nat) (h : n ≤ 1000) : gRange1 [.d (.int (n : Nat))] = some ⟨iota 0 n, []⟩ := by
  have := e_range1 (j := (n : Int)) (by omega) (by omega)
  rw [this]
  rfl
theorem r1_sub (n k : Nat) (h : n ≤ 1000) (hk : k ≤ 1000) : gRange1 [.d (.int ((n : Int) - (k : Int)))] = some ⟨iota 0 (n - k), []⟩ := by
  have := e_range1 (j := (n : Int) - (k : Int)) (by omega) (by omega)
  rw [this, show ((n : Int) - (k : Int)).toNat = n - k by omega]
theorem pairs_ex {l : List PyData} (hn : S[i]? = some (.lst l)) (hl : HP l) (hm : many ≤ 9) :
    ∃ ps l', m_l_pairs [.c i, .d (.int (many : Nat))] S = .ok (.f (.lst (dP ps))) (S.set i (.lst l')) ∧ HP l' ∧ GP many 60 ps ∧ RiseP ps := by
  have hz := hzZ
  have hlt := st_lt hn
  suffices z : wp (m_l_pairs [.c i, .d (.int (many : Nat))] S) fun v S' => ∃ ps l', v = .f (.lst (dP ps)) ∧ S' = S.set i (.lst l') ∧ HP l' ∧ GP many 60 ps ∧ RiseP ps by
    obtain ⟨v, S', e, P, l', rfl, rfl, q⟩ := z.ex
    exact ⟨P, l', e, q⟩
  refine wp_fn rfl ?_
  simp only [List.map_cons, List.map_nil, List.replicate, List.cons_append, List.nil_append]
  obtain ⟨l1, md, e1, hl1, m0, m1⟩ := take_ex hn hl (m := 7) (by decide) (by decide)
  obtain ⟨l2, mo, e2, hl2, a0, a1⟩ := take_ex (st_upd (k' := .lst l1) hn) hl1 (m := 4) (by decide) (by decide)
  rw [List.set_set] at e2
  refine wp_seqN fun K kn => ?_
  simp only [e_sSet, e_Call, e_aCons, e_aNil, e_V, e_K, List.getElem?_cons_zero, List.getElem?_cons_succ, bind_ok, th_c, th_d, e1, wp_ok, List.set_cons_zero, List.set_cons_succ]
  refine kn _ _ ?_
  clear kn K
  refine wp_seqN fun K kn => ?_
  simp only [e_sSet, e_Call, e_aCons, e_aNil, e_V, e_K, List.getElem?_cons_zero, List.getElem?_cons_succ, bind_ok, th_c, th_d, e2, wp_ok, List.set_cons_zero, List.set_cons_succ]
  refine kn _ _ ?_
  clear kn K
  refine wp_seqN fun K kn => ?_
  simp only [e_sCell, e_Lst, e_aNil, bind_ok, datas_nil, List.length_nil, Nat.zero_le, if_true, wp_ok, List.set_cons_zero, List.set_cons_succ]
  refine kn _ _ ?_
  clear kn K e1 e2
  rw [show (S.set i (.lst l2)).length = S.length by simp]
  -- the stores
  have cc : ∀ (l : List PyData) (R : Sto) (qs : List (Int × Int)), (S.set i (.lst l) ++ (R ++ [.lst (dP qs)]))[S.length + R.length]? = some (.lst (dP qs)) := fun l R qs => by
    rw [List.getElem?_append_right (by simp), List.getElem?_append_right (by simp)]
    simp
  have ci : ∀ (l : List PyData) (X : Sto), (S.set i (.lst l) ++ X)[i]? = some (.lst l) := fun l X => st_own hlt
  have si : ∀ (l l' : List PyData) (X : Sto), (S.set i (.lst l) ++ X).set i (.lst l') = S.set i (.lst l') ++ X := fun l l' X => st_set_own hlt
  have sc : ∀ (l : List PyData) (R : Sto) (qs rs : List (Int × Int)), (S.set i (.lst l) ++ (R ++ [Cell.lst (dP qs)])).set (S.length + R.length) (.lst (dP rs)) = S.set i (.lst l) ++ (R ++ [Cell.lst (dP rs)]) := fun l R qs rs => by
    rw [List.set_append_right _ _ (by simp), List.set_append_right _ _ (by simp)]
    simp
  have tkx : ∀ (l : List PyData) (X : Sto) (m : Int), HP l → 0 < m → m < 1000000 → ∃ l' r, m_l_take [.c i, .d (.int m)] (S.set i (.lst l) ++ X) = .ok (.d (.int r)) (S.set i (.lst l') ++ X) ∧ HP l' ∧ 0 ≤ r ∧ r < m := fun l X m h1 h2 h3 => by
    obtain ⟨l', r, e, q⟩ := take_ex (ci l X) h1 h2 h3
    rw [si] at e
    exact ⟨l', r, e, q⟩
  have exx : ∀ (l : List PyData) (R : Sto) (qs rs : List (Int × Int)), qs.length + rs.length ≤ 200 → gExtend (.c (S.length + R.length)) [.d (.list (dP rs))] (S.set i (.lst l) ++ (R ++ [.lst (dP qs)])) = .ok (.d .none) (S.set i (.lst l) ++ (R ++ [.lst (dP (qs ++ rs))])) := fun l R qs rs h => by
    have := ext_c (w := .d (.list (dP rs))) (es := dP rs) (cc l R qs) rfl (by simp; omega)
    rw [show dP qs ++ dP rs = dP (qs ++ rs) by simp, sc] at this
    exact this
  have apx : ∀ (l : List PyData) (R : Sto) (qs : List (Int × Int)) (p : Int × Int), qs.length ≤ 200 → gAppend (.c (S.length + R.length)) [.d (pP p)] (S.set i (.lst l) ++ (R ++ [.lst (dP qs)])) = .ok (.d .none) (S.set i (.lst l) ++ (R ++ [.lst (dP (qs ++ [p]))])) := fun l R qs p h => by
    have := app_c (y := pP p) (cc l R qs) (by simp; omega)
    rw [show dP qs ++ [pP p] = dP (qs ++ [p]) by simp, sc] at this
    exact this
  have tyx : ∀ (l : List PyData) (R : Sto) (qs : List (Int × Int)), tyB "list" (S.set i (.lst l) ++ (R ++ [.lst (dP qs)])) (.c (S.length + R.length)) = true := fun l R qs => ty_lZ (cc l R qs)
  obtain ⟨R, hR⟩ : ∃ R : Sto, R = [] := ⟨_, rfl⟩
  obtain ⟨qs, hq⟩ : ∃ qs : List (Int × Int), qs = [] := ⟨_, rfl⟩
  have gp : GP many 40 qs := by rw [hq]; exact ⟨by simp, by simp⟩
  have hq0 : qs.length = 0 := by rw [hq]; rfl
  rw [show S.set i (.lst l2) ++ [Cell.lst []] = S.set i (.lst l2) ++ (R ++ [Cell.lst (dP qs)]) by rw [hR, hq]; rfl, show Val.c S.length = Val.c (S.length + R.length) by rw [hR]; rfl]
  clear hR hq
  generalize hv5 : (none : Option Val) = v5
  have : ∃ v6 v7 v8 : Option Val, v6 = v5 ∧ v7 = v5 ∧ v8 = v5 := ⟨v5, v5, v5, rfl, rfl, rfl⟩
  clear hv5 this
  -- modes 1, 2, 3
  refine wp_seqN fun K kn => ?_
  have next1 : ∀ l R qs o5 o6 o7 o8, HP l → GP many 41 qs → K (.nx [some (.c i), some (.d (.int (many : Nat))), some (.d (.int md)), some (.d (.int mo)), some (.c (S.length + R.length)), o5, o6, o7, o8]) (S.set i (.lst l) ++ (R ++ [.lst (dP qs)])) := by
    intro l R qs o5 o6 o7 o8 hl gp
    refine kn _ _ ?_
    clear kn K
    -- mode 4
    refine wp_seqN fun K kn => ?_
    have next2 : ∀ l R qs o5 o6 o7 o8, HP l → GP many 41 qs → K (.nx [some (.c i), some (.d (.int (many : Nat))), some (.d (.int md)), some (.d (.int mo)), some (.c (S.length + R.length)), o5, o6, o7, o8]) (S.set i (.lst l) ++ (R ++ [.lst (dP qs)])) := by
      intro l R qs o5 o6 o7 o8 hl gp
      refine kn _ _ ?_
      clear kn K
      -- mode 5
      refine wp_seqN fun K kn => ?_
      have next3 : ∀ l R qs o5 o6 o7 o8, HP l → GP many 41 qs → K (.nx [some (.c i), some (.d (.int (many : Nat))), some (.d (.int md)), some (.d (.int mo)), some (.c (S.length + R.length)), o5, o6, o7, o8]) (S.set i (.lst l) ++ (R ++ [.lst (dP qs)])) := by
        intro l R qs o5 o6 o7 o8 hl gp
        refine kn _ _ ?_
        clear kn K
        -- mode 6
        refine wp_seqN fun K kn => ?_
        have next4 : ∀ l R qs o5 o6 o7 o8, HP l → GP many 41 qs → K (.nx [some (.c i), some (.d (.int (many : Nat))), some (.d (.int md)), some (.d (.int mo)), some (.c (S.length + R.length)), o5, o6, o7, o8]) (S.set i (.lst l) ++ (R ++ [.lst (dP qs)])) := by
          intro l R qs o5 o6 o7 o8 hl gp
          refine kn _ _ ?_
          clear kn K
          -- more
          refine wp_seqN fun K kn => ?_
          obtain ⟨rep, hrep, rl, mn0⟩ : ∃ rep : Nat, iBy gRange1 (aCons (ev2 gMul (evV 3) (evCall (g1 fInt) (aCons (evAnd (ev2 gGt (evV 2) (evK (.int 3))) (ev2 gGt (evV 1) (evK (.int 1)))) (aNil)))) (aNil)) [some (.c i), some (.d (.int (many : Nat))), some (.d (.int md)), some (.d (.int mo)), some (.c (S.length + R.length)), o5, o6, o7, o8] (S.set i (.lst l) ++ (R ++ [.lst (dP qs)])) = .ok ⟨iota 0 rep, []⟩ (S.set i (.lst l) ++ (R ++ [.lst (dP qs)])) ∧ rep ≤ 3 ∧ (0 < rep → 1 < many) := by
            generalize S.set i (.lst l) ++ (R ++ [Cell.lst (dP qs)]) = U
            have r0 : gRange1 [.d (.int 0)] = some ⟨iota 0 0, []⟩ := r1_eq 0 (by decide)
            by_cases c1 : 3 < md
            · by_cases c2 : (1 : Int) < (many : Int)
              · refine ⟨mo.toNat, ?_, by omega, fun _ => by omega⟩
                have mm : gMul (.d (.int mo)) (.d (.int 1)) U = .ok (.d (.int (mo * 1))) U := o_mulR (by decide) (by decide)
                have rg := r1_eq mo.toNat (by omega)
                rw [show ((mo.toNat : Nat) : Int) = mo * 1 by omega] at rg
                simp only [e_iBy, e_aCons, e_aNil, e_2, e_Call, e_And, e_tst, e_V, e_K, List.getElem?_cons_zero, List.getElem?_cons_succ, bind_ok, th_d, o_gt, decide_eq_true c1, decide_eq_true c2, if_true, g_intB, mm, rg]
              · refine ⟨0, ?_, by omega, fun h => by omega⟩
                have mm : gMul (.d (.int mo)) (.d (.int 0)) U = .ok (.d (.int (mo * 0))) U := o_mulR (by decide) (by decide)
                simp only [e_iBy, e_aCons, e_aNil, e_2, e_Call, e_And, e_tst, e_V, e_K, List.getElem?_cons_zero, List.getElem?_cons_succ, bind_ok, th_d, o_gt, decide_eq_true c1, decide_eq_false c2, if_true, g_intB, Bool.false_eq_true, if_false, mm, Int.mul_zero, r0]
            · refine ⟨0, ?_, by omega, fun h => by omega⟩
              have mm : gMul (.d (.int mo)) (.d (.int 0)) U = .ok (.d (.int (mo * 0))) U := o_mulR (by decide) (by decide)
              simp only [e_iBy, e_aCons, e_aNil, e_2, e_Call, e_And, e_tst, e_V, e_K, List.getElem?_cons_zero, List.getElem?_cons_succ, bind_ok, th_d, o_gt, decide_eq_false c1, if_true, g_intB, Bool.false_eq_true, if_false, mm, Int.mul_zero, r0]
          refine wp_forK (fun (pre : List Nat) ρ T => ∃ l qs o5 o7, HP l ∧ GP many (41 + pre.length) qs ∧ ρ = [some (.c i), some (.d (.int (many : Nat))), some (.d (.int md)), some (.d (.int mo)), some (.c (S.length + R.length)), o5, o6, o7, o8] ∧ T = S.set i (.lst l) ++ (R ++ [.lst (dP qs)])) (List.range rep) (fun k => .int (0 + (k : Int))) hrep rfl (fun _ _ _ _ => gok_nil) ⟨l, qs, o5, o7, hl, gp, rfl, rfl⟩ ?_ ?_
          · rintro pre k post ρ T e ⟨l, qs, o5, o7, hl, gp, rfl, rfl⟩
            have pl : pre.length < 3 := by
              have := congrArg List.length e
              simp at this
              omega
            have mn : 1 < many := mn0 (by
              have := congrArg List.length e
              simp at this
              omega)
            refine ⟨_, rfl, fun K1 k1 kr1 => ?_⟩
            obtain ⟨l3, r3, e3, hl3, c0, c1⟩ := tkx l (R ++ [.lst (dP qs)]) ((many : Int) - 1) hl (by omega) (by omega)
            obtain ⟨l4, r4, e4, hl4, d0, d1⟩ := tkx l3 (R ++ [.lst (dP qs)]) (1 + r3) hl3 (by omega) (by omega)
            refine wp_seqN fun K2 k2 => ?_
            simp only [List.set_cons_zero, List.set_cons_succ, e_sSet, e_2, e_Call, e_aCons, e_aNil, e_V, e_K, List.getElem?_cons_zero, List.getElem?_cons_succ, bind_ok, th_c, th_d, o_sub, e3, o_add, wp_ok]
            refine k2 _ _ ?_
            simp only [e_sEx, e_Mt, e_Tup, e_Call, e_aCons, e_aNil, e_V, List.getElem?_cons_zero, List.getElem?_cons_succ, bind_ok, th_c, th_d, tyx, if_true, e4, datas_d, datas_nil, Option.map_some, List.length_cons, List.length_nil, Nat.reduceAdd, Nat.reduceLeDiff]
            rw [show PyData.tuple [.int r4, .int (1 + r3)] = pP (r4, 1 + r3) from rfl, apx l4 R qs _ (by have := gp.1; omega)]
            simp only [bind_ok, wp_ok]
            exact k1 _ _ ⟨l4, _, some (.d (.int (0 + (k : Int)))), _, hl4, by
              rw [List.length_append, ← Nat.add_assoc]
              exact gp.app ⟨by simp, fun p hp => by rw [List.mem_singleton.mp hp]; exact ⟨d0, d1, by show 1 + r3 < _; omega⟩⟩, rfl, rfl⟩
          · rintro ρ T ⟨l, qs, o5, o7, hl, gp, rfl, rfl⟩
            refine kn _ _ ?_
            clear kn K
            rw [List.length_range] at gp
            have gp2 := gp.1
            have ssv : gSorS (.c (S.length + R.length)) (S.set i (.lst l) ++ (R ++ [.lst (dP qs)])) = .ok (.f (.lst (dP (psort (dd qs))))) (S.set i (.lst l) ++ (R ++ [.lst (dP qs)])) := sorS_P (by rw [seq_c, cc]) (by omega) fun t ht => by have := gp.2 t ht; omega
            have sl : ∀ T : Sto, gSl (.d (.list (dP (psort (dd qs))))) none (some 60) T = .ok (.f (.lst (dP ((psort (dd qs)).take 60)))) T := fun T => by
              rw [o_slL, cut_to (by decide)]
              simp [List.map_take]
            have es : evSorS (evV 4) [some (.c i), some (.d (.int (many : Nat))), some (.d (.int md)), some (.d (.int mo)), some (.c (S.length + R.length)), o5, o6, o7, o8] (S.set i (.lst l) ++ (R ++ [.lst (dP qs)])) = .ok (.f (.lst (dP (psort (dd qs))))) (S.set i (.lst l) ++ (R ++ [.lst (dP qs)])) := by
              show gSorS (Val.th (.c (S.length + R.length))) _ = _
              rw [th_c, ssv]
            simp only [e_sRt, e_Sl, es, e_oNo, e_oYes, e_K, bind_ok, th_f, data_lst, sl, wp_ok]
            have ls : (psort (dd qs)).length ≤ 60 := by rw [psort_length]; exact Nat.le_trans (dd_len _) (by omega)
            rw [List.take_of_length_le ls]
            refine wp_out_f ?_
            refine ⟨_, l, rfl, by simp, hl, ⟨ls, fun p hp => gp.2 p (mem_dd.mp (mem_psort.mp hp))⟩, psort_rise (nodup_dd _)⟩
        by_cases c : md = 6
        · subst c
          simp only [e_sIf, e_tst, e_2, e_V, e_K, List.getElem?_cons_zero, List.getElem?_cons_succ, bind_ok, th_d, o_eqI, beq_self_eq_true, if_true]
          refine wp_seqN fun K2 k2 => ?_
          rw [e_sCell, comp_pure (List.range (many - 1)) (fun k => .int (0 + (k : Int))) (fun k : Nat => decide ((k : Int) % 3 < 2)) (fun k => pP ((k : Int), (k : Int) + 1)) (s := ⟨iota 0 (many - 1), []⟩) (by
            simp only [e_iBy, e_aCons, e_aNil, e_2, e_V, e_K, List.getElem?_cons_zero, List.getElem?_cons_succ, bind_ok, th_d, o_sub]
            have := r1_sub many 1 (by omega) (by omega)
            rw [show ((1 : Nat) : Int) = 1 from rfl] at this
            rw [this]) rfl gok_nil (by simp; omega) (fun k _ => ⟨_, by simp [wipeE]; rfl, by
              have md3 : ∀ (y : Int) (U : Sto), gMod (.d (.int y)) (.d (.int 3)) U = .ok (.d (.int (y % 3))) U := fun y U => o_mod (by decide)
              simp only [e_tst, e_2, e_V, e_K, List.getElem?_cons_zero, List.getElem?_cons_succ, bind_ok, th_d, md3, o_lt], fun _ => ⟨.d (pP ((k : Int), (k : Int) + 1)), by
              simp only [e_Tup, e_2, e_aCons, e_aNil, e_V, e_K, List.getElem?_cons_zero, List.getElem?_cons_succ, bind_ok, th_d, o_add, datas_d, datas_nil, Option.map_some, List.length_cons, List.length_nil, Nat.reduceAdd, Nat.reduceLeDiff, if_true]
              rfl, rfl⟩⟩)]
          rw [show (((List.range (many - 1)).filter fun k : Nat => decide ((k : Int) % 3 < 2)).map fun (k : Nat) => pP ((k : Int), (k : Int) + 1)) = dP (((List.range (many - 1)).filter fun k : Nat => decide ((k : Int) % 3 < 2)).map fun (k : Nat) => (((k : Int), (k : Int) + 1) : Int × Int)) by show _ = List.map pP (List.map _ _); rw [List.map_map]; rfl]
          have g1' : GP many 9 (((List.range (many - 1)).filter fun k : Nat => decide ((k : Int) % 3 < 2)).map fun (k : Nat) => (((k : Int), (k : Int) + 1) : Int × Int)) := GP.map (by
            have := List.length_filter_le (fun k : Nat => decide ((k : Int) % 3 < 2)) (List.range (many - 1))
            rw [List.length_range] at this
            omega) fun k hk => by
              have := List.mem_range.mp (List.mem_filter.mp hk).1
              dsimp only
              omega
          generalize ((List.range (many - 1)).filter fun k : Nat => decide ((k : Int) % 3 < 2)).map (fun (k : Nat) => (((k : Int), (k : Int) + 1) : Int × Int)) = q1 at g1'
          simp only [bind_ok, wp_ok, List.set_cons_zero, List.set_cons_succ]
          refine k2 _ _ ?_
          clear k2 K2
          rw [show S.set i (.lst l) ++ (R ++ [Cell.lst (dP qs)]) ++ [Cell.lst (dP q1)] = S.set i (.lst l) ++ ((R ++ [Cell.lst (dP qs)]) ++ [Cell.lst (dP q1)]) by simp, show (S.set i (.lst l) ++ (R ++ [Cell.lst (dP qs)])).length = S.length + (R ++ [Cell.lst (dP qs)]).length by simp]
          generalize R ++ [Cell.lst (dP qs)] = R2
          have cm : ∀ ρ : Envi, ρ[1]? = some (some (.d (.int (many : Nat)))) → evComp (iBy gRange1 (aCons (ev2 gSub (evV 1) (evK (.int 3))) (aNil))) (bName 8) (bYes) (evTup (aCons (evV 8) (aCons (ev2 gAdd (evV 8) (evK (.int 3))) (aNil)))) [8] ρ (S.set i (.lst l) ++ (R2 ++ [Cell.lst (dP q1)])) = .ok (.f (.lst (dP ((List.range (many - 3)).map fun (k : Nat) => (((k : Int), (k : Int) + 3) : Int × Int))))) (S.set i (.lst l) ++ (R2 ++ [Cell.lst (dP q1)])) ∨ True := fun ρ h => .inr trivial
          clear cm
          rw [e_sEx, e_Mt]
          simp only [e_V, List.getElem?_cons_zero, List.getElem?_cons_succ, bind_ok, th_c, tyx, if_true, e_aCons]
          rw [comp_map (List.range (many - 3)) (fun k => .int (0 + (k : Int))) (fun k => pP ((k : Int), (k : Int) + 3)) (s := ⟨iota 0 (many - 3), []⟩) (by
            simp only [e_iBy, e_aCons, e_aNil, e_2, e_V, e_K, List.getElem?_cons_zero, List.getElem?_cons_succ, bind_ok, th_d, o_sub]
            have := r1_sub many 3 (by omega) (by omega)
            rw [show ((3 : Nat) : Int) = 3 from rfl] at this
            rw [this]) rfl gok_nil (by simp; omega) (fun k _ => ⟨_, by simp [wipeE]; rfl, by simp, .d (pP ((k : Int), (k : Int) + 3)), by
              simp only [e_Tup, e_2, e_aCons, e_aNil, e_V, e_K, List.getElem?_cons_zero, List.getElem?_cons_succ, bind_ok, th_d, o_add, datas_d, datas_nil, Option.map_some, List.length_cons, List.length_nil, Nat.reduceAdd, Nat.reduceLeDiff, if_true]
              rfl, rfl⟩)]
          have g2' : GP many 9 ((List.range (many - 3)).map fun (k : Nat) => (((k : Int), (k : Int) + 3) : Int × Int)) := GP.map (by simp; omega) fun k hk => by
            have := List.mem_range.mp hk
            dsimp only
            omega
          rw [show ((List.range (many - 3)).map fun (k : Nat) => pP ((k : Int), (k : Int) + 3)) = dP ((List.range (many - 3)).map fun (k : Nat) => (((k : Int), (k : Int) + 3) : Int × Int)) by show _ = List.map pP (List.map _ _); rw [List.map_map]; rfl]
          generalize (List.range (many - 3)).map (fun (k : Nat) => (((k : Int), (k : Int) + 3) : Int × Int)) = q2 at g2'
          have := g1'.1
          have := g2'.1
          simp only [bind_ok, th_f, data_lst, e_aNil, exx l R2 q1 q2 (by omega), wp_ok]
          exact next4 _ _ _ _ _ _ _ hl ((g1'.app g2').up (by decide))
        · have z : (md == 6) = false := beq_false_of_ne c
          simp only [e_sIf, e_tst, e_2, e_V, e_K, List.getElem?_cons_zero, List.getElem?_cons_succ, bind_ok, th_d, o_eqI, z, Bool.false_eq_true, if_false, e_sNil, wp_ok]
          exact next4 _ _ _ _ _ _ _ hl gp
      by_cases c : md = 5
      · by_cases c2 : (2 : Int) < (many : Int)
        · subst c
          simp only [e_sIf, e_bAnd, e_tst, e_2, e_V, e_K, List.getElem?_cons_zero, List.getElem?_cons_succ, bind_ok, th_d, o_eqI, beq_self_eq_true, if_true, o_gt, decide_eq_true c2]
          rw [e_sCell, e_2, comp_map (List.range (many - 1)) (fun k => .int (0 + (k : Int))) (fun k => pP ((k : Int), (k : Int) + 1)) (s := ⟨iota 0 (many - 1), []⟩) (by
            simp only [e_iBy, e_aCons, e_aNil, e_2, e_V, e_K, List.getElem?_cons_zero, List.getElem?_cons_succ, bind_ok, th_d, o_sub]
            have := r1_sub many 1 (by omega) (by omega)
            rw [show ((1 : Nat) : Int) = 1 from rfl] at this
            rw [this]) rfl gok_nil (by simp; omega) (fun k _ => ⟨_, by simp [wipeE]; rfl, by simp, .d (pP ((k : Int), (k : Int) + 1)), by
              simp only [e_Tup, e_2, e_aCons, e_aNil, e_V, e_K, List.getElem?_cons_zero, List.getElem?_cons_succ, bind_ok, th_d, o_add, datas_d, datas_nil, Option.map_some, List.length_cons, List.length_nil, Nat.reduceAdd, Nat.reduceLeDiff, if_true]
              rfl, rfl⟩)]
          have g2' : GP many 9 ((List.range (many - 1)).map fun (k : Nat) => (((k : Int), (k : Int) + 1) : Int × Int)) := GP.map (by simp; omega) fun k hk => by
            have := List.mem_range.mp hk
            dsimp only
            omega
          rw [show ((List.range (many - 1)).map fun (k : Nat) => pP ((k : Int), (k : Int) + 1)) = dP ((List.range (many - 1)).map fun (k : Nat) => (((k : Int), (k : Int) + 1) : Int × Int)) by show _ = List.map pP (List.map _ _); rw [List.map_map]; rfl]
          generalize (List.range (many - 1)).map (fun (k : Nat) => (((k : Int), (k : Int) + 1) : Int × Int)) = q2 at g2'
          have ad : ∀ T : Sto, gAdd (.d (.list (dP q2))) (.d (.list [.tuple [.int 0, .int ((many : Int) - 1)]])) T = .ok (.f (.lst (dP (q2 ++ [(0, (many : Int) - 1)])))) T := fun T => by
            rw [o_addL (ds := dP q2) (es := [.tuple [.int 0, .int ((many : Int) - 1)]]) rfl rfl (by have := g2'.1; simp; omega)]
            simp [pP]
          simp only [bind_ok, th_f, data_lst, e_2, e_Lst, e_Tup, e_aCons, e_aNil, e_V, e_K, List.getElem?_cons_zero, List.getElem?_cons_succ, th_d, o_sub, datas_d, datas_nil, Option.map_some, List.length_cons, List.length_nil, Nat.reduceAdd, Nat.reduceLeDiff, if_true, ad, wp_ok, List.set_cons_zero, List.set_cons_succ]
          rw [show S.set i (.lst l) ++ (R ++ [Cell.lst (dP qs)]) ++ [Cell.lst (dP (q2 ++ [(0, (many : Int) - 1)]))] = S.set i (.lst l) ++ ((R ++ [Cell.lst (dP qs)]) ++ [Cell.lst (dP (q2 ++ [(0, (many : Int) - 1)]))]) by simp, show (S.set i (.lst l) ++ (R ++ [Cell.lst (dP qs)])).length = S.length + (R ++ [Cell.lst (dP qs)]).length by simp]
          exact next3 _ _ _ _ _ _ _ hl ((g2'.app ⟨(by simp : [((0 : Int), (many : Int) - 1)].length ≤ 1), fun p hp => by rw [List.mem_singleton.mp hp]; dsimp only; omega⟩).up (by decide))
        · subst c
          simp only [e_sIf, e_bAnd, e_tst, e_2, e_V, e_K, List.getElem?_cons_zero, List.getElem?_cons_succ, bind_ok, th_d, o_eqI, beq_self_eq_true, if_true, o_gt, decide_eq_false c2, Bool.false_eq_true, if_false, e_sNil, wp_ok]
          exact next3 _ _ _ _ _ _ _ hl gp
      · have z : (md == 5) = false := beq_false_of_ne c
        simp only [e_sIf, e_bAnd, e_tst, e_2, e_V, e_K, List.getElem?_cons_zero, List.getElem?_cons_succ, bind_ok, th_d, o_eqI, z, Bool.false_eq_true, if_false, e_sNil, wp_ok]
        exact next3 _ _ _ _ _ _ _ hl gp
    by_cases c : md = 4
    · subst c
      simp only [e_sIf, e_tst, e_2, e_V, e_K, List.getElem?_cons_zero, List.getElem?_cons_succ, bind_ok, th_d, o_eqI, beq_self_eq_true, if_true]
      have key : wp (evComp (iBy gRange2 (aCons (evK (.int 1)) (aCons (evV 1) (aNil)))) (bName 7) (bYes) (evTup (aCons (evCall m_l_take (aCons (evV 0) (aCons (evV 7) (aNil)))) (aCons (evV 7) (aNil)))) [7] [some (.c i), some (.d (.int (many : Nat))), some (.d (.int 4)), some (.d (.int mo)), some (.c (S.length + R.length)), o5, o6, o7, o8] (S.set i (.lst l) ++ (R ++ [.lst (dP qs)]))) fun v T => ∃ q l', v = .f (.lst (dP q)) ∧ GP many 9 q ∧ HP l' ∧ T = S.set i (.lst l') ++ (R ++ [.lst (dP qs)]) := by
        refine wp_compK (fun (pre : List Nat) acc T => ∃ q l, acc = dP q ∧ GP many pre.length q ∧ HP l ∧ T = S.set i (.lst l) ++ (R ++ [.lst (dP qs)])) (List.range (many - 1)) (fun k => .int (1 + (k : Int))) (s := ⟨iota 1 (many - 1), []⟩) (S1 := S.set i (.lst l) ++ (R ++ [.lst (dP qs)])) ?_ rfl (by simp; omega) (fun _ _ _ _ => gok_nil) ⟨[], l, rfl, ⟨by simp, by simp⟩, hl, rfl⟩ ?_ ?_
        · have := e_range2 (i := 1) (j := (many : Int)) (by omega) (by omega) (by omega) (by omega)
          simp only [e_iBy, e_aCons, e_aNil, e_V, e_K, List.getElem?_cons_zero, List.getElem?_cons_succ, bind_ok, th_d, this]
          rw [show ((many : Int) - 1).toNat = many - 1 by omega]
        · rintro pre k post acc T e ⟨q, l, rfl, gq, hl, rfl⟩
          have kl : k < many - 1 := by
            have : k ∈ List.range (many - 1) := by rw [e]; simp
            exact List.mem_range.mp this
          refine ⟨_, rfl, fun K3 k3 k4 => ?_⟩
          simp only [e_bYes, wp_ok]
          refine k3 _ fun K4 k5 => ?_
          obtain ⟨l3, r3, e3, hl3, c0, c1⟩ := tkx l (R ++ [.lst (dP qs)]) (1 + (k : Int)) hl (by omega) (by omega)
          simp only [wipeE, List.foldl, List.set_cons_zero, List.set_cons_succ, e_Tup, e_Call, e_aCons, e_aNil, e_V, List.getElem?_cons_zero, List.getElem?_cons_succ, bind_ok, th_c, th_d, e3, datas_d, datas_nil, Option.map_some, List.length_cons, List.length_nil, Nat.reduceAdd, Nat.reduceLeDiff, if_true, wp_ok]
          exact k5 _ _ _ rfl ⟨q ++ [(r3, 1 + (k : Int))], l3, by simp [pP], by
            rw [List.length_append]
            exact gq.app ⟨by simp, fun p hp => by rw [List.mem_singleton.mp hp]; dsimp only; omega⟩, hl3, rfl⟩
        · rintro acc T ⟨q, l, rfl, gq, hl, rfl⟩
          rw [List.length_range] at gq
          exact ⟨q, l, rfl, gq.up (by omega), hl, rfl⟩
      obtain ⟨v, T, ev, q, l', rfl, gq, hl', rfl⟩ := key.ex
      simp only [e_sCell, ev, bind_ok, wp_ok, List.set_cons_zero, List.set_cons_succ]
      rw [show S.set i (.lst l') ++ (R ++ [Cell.lst (dP qs)]) ++ [Cell.lst (dP q)] = S.set i (.lst l') ++ ((R ++ [Cell.lst (dP qs)]) ++ [Cell.lst (dP q)]) by simp, show (S.set i (.lst l') ++ (R ++ [Cell.lst (dP qs)])).length = S.length + (R ++ [Cell.lst (dP qs)]).length by simp]
      exact next2 _ _ _ _ _ _ _ hl' (gq.up (by decide))
    · have z : (md == 4) = false := beq_false_of_ne c
      simp only [e_sIf, e_tst, e_2, e_V, e_K, List.getElem?_cons_zero, List.getElem?_cons_succ, bind_ok, th_d, o_eqI, z, Bool.false_eq_true, if_false, e_sNil, wp_ok]
      exact next2 _ _ _ _ _ _ _ hl gp
  have inn : ∀ U : Sto, gIn (.d (.int md)) (.d (.tuple [.int 1, .int 2, .int 3])) U = .ok (.d (.bool (decide (md ∈ [1, 2, 3])))) U := fun U => encInt.inT md [1, 2, 3]
  by_cases c : md ∈ ([1, 2, 3] : List Int)
  · obtain ⟨bar, hbar⟩ : ∃ bar : Int, atI [PyData.int 0, .int 4, .int 2, .int 5] md = some (.int bar) := by
      simp at c
      rcases c with rfl | rfl | rfl
      · exact ⟨4, rfl⟩
      · exact ⟨2, rfl⟩
      · exact ⟨5, rfl⟩
    simp only [e_sIf, e_tst, e_2, e_Tup, e_aCons, e_aNil, e_V, e_K, List.getElem?_cons_zero, List.getElem?_cons_succ, bind_ok, th_d, datas_d, datas_nil, Option.map_some, List.length_cons, List.length_nil, Nat.reduceAdd, Nat.reduceLeDiff, if_true, inn, decide_eq_true c]
    refine wp_seqN fun K2 k2 => ?_
    simp only [e_sSet, e_2, e_Lst, e_aCons, e_aNil, e_V, e_K, List.getElem?_cons_zero, List.getElem?_cons_succ, bind_ok, th_d, th_f, data_lst, datas_d, datas_nil, Option.map_some, List.length_cons, List.length_nil, Nat.reduceAdd, Nat.reduceLeDiff, if_true, o_ixL, hbar, wp_ok, List.set_cons_zero, List.set_cons_succ]
    refine k2 _ _ ?_
    clear k2 K2
    refine wp_forK (fun (pre : List Nat) ρ T => ∃ l qs o7, HP l ∧ (2 * qs.length ≤ pre.length * pre.length ∧ ∀ p ∈ qs, 0 ≤ p.1 ∧ p.1 < p.2 ∧ p.2 < (many : Int)) ∧ ρ = [some (.c i), some (.d (.int (many : Nat))), some (.d (.int md)), some (.d (.int mo)), some (.c (S.length + R.length)), v5, some (.d (.int bar)), o7, v5] ∧ T = S.set i (.lst l) ++ (R ++ [.lst (dP qs)])) (List.range many) (fun k => .int (0 + (k : Int))) (s := ⟨iota 0 many, []⟩) (S1 := S.set i (.lst l2) ++ (R ++ [.lst (dP qs)])) (by
      simp only [e_iBy, e_aCons, e_aNil, e_V, List.getElem?_cons_zero, List.getElem?_cons_succ, bind_ok, th_d, r1_eq many (by omega)]) rfl (fun _ _ _ _ => gok_nil) ⟨l2, qs, _, hl2, ⟨by rw [hq0]; simp, gp.2⟩, rfl, rfl⟩ ?_ ?_
    · rintro pre b post ρ T e ⟨l, qs, o7, hl, ⟨ql, qm⟩, rfl, rfl⟩
      obtain ⟨hb1, hb2⟩ := range_at e
      have pb : pre.length = b := by omega
      refine ⟨_, rfl, fun K1 k1 kr1 => ?_⟩
      have key : wp (evComp (iBy gRange1 (aCons (evV 7) (aNil))) (bName 8) (tst (ev2 gGt (evV 6) (ev2 gMul (evK (.int 2)) (evCall m_l_take (aCons (evV 0) (aCons (evK (.int 3)) (aNil))))))) (evTup (aCons (evV 8) (aCons (evV 7) (aNil)))) [8] [some (.c i), some (.d (.int (many : Nat))), some (.d (.int md)), some (.d (.int mo)), some (.c (S.length + R.length)), v5, some (.d (.int bar)), some (.d (.int (0 + (b : Int)))), v5] (S.set i (.lst l) ++ (R ++ [.lst (dP qs)]))) fun v T => ∃ q l', v = .f (.lst (dP q)) ∧ (q.length ≤ b ∧ ∀ p ∈ q, 0 ≤ p.1 ∧ p.1 < p.2 ∧ p.2 < (many : Int)) ∧ HP l' ∧ T = S.set i (.lst l') ++ (R ++ [.lst (dP qs)]) := by
        refine wp_compK (fun (pre : List Nat) acc T => ∃ q l, acc = dP q ∧ (q.length ≤ pre.length ∧ ∀ p ∈ q, 0 ≤ p.1 ∧ p.1 < p.2 ∧ p.2 < (many : Int)) ∧ HP l ∧ T = S.set i (.lst l) ++ (R ++ [.lst (dP qs)])) (List.range b) (fun k => .int (0 + (k : Int))) (s := ⟨iota 0 b, []⟩) (S1 := S.set i (.lst l) ++ (R ++ [.lst (dP qs)])) ?_ rfl (by simp; omega) (fun _ _ _ _ => gok_nil) ⟨[], l, rfl, ⟨by simp, by simp⟩, hl, rfl⟩ ?_ ?_
        · have := r1_eq b (by omega)
          rw [show ((b : Nat) : Int) = 0 + (b : Int) by omega] at this
          simp only [e_iBy, e_aCons, e_aNil, e_V, List.getElem?_cons_zero, List.getElem?_cons_succ, bind_ok, th_d, this]
        · rintro pre2 a post2 acc T e2 ⟨q, l, rfl, ⟨g1, g2⟩, hl, rfl⟩
          have al : a < b := by
            have : a ∈ List.range b := by rw [e2]; simp
            exact List.mem_range.mp this
          refine ⟨_, rfl, fun K3 k3 k4 => ?_⟩
          obtain ⟨l3, r3, e3, hl3, c0, c1⟩ := tkx l (R ++ [.lst (dP qs)]) 3 hl (by decide) (by decide)
          have mm : ∀ U : Sto, gMul (.d (.int 2)) (.d (.int r3)) U = .ok (.d (.int (2 * r3))) U := fun U => o_mulL (by decide) (by decide)
          by_cases cc1 : 2 * r3 < bar
          · simp only [wipeE, List.foldl, List.set_cons_zero, List.set_cons_succ, e_tst, e_2, e_Call, e_aCons, e_aNil, e_V, e_K, List.getElem?_cons_zero, List.getElem?_cons_succ, bind_ok, th_c, th_d, e3, mm, o_gt, decide_eq_true cc1, wp_ok]
            refine k3 _ fun K4 k5 => ?_
            simp only [wipeE, List.foldl, List.set_cons_zero, List.set_cons_succ, e_Tup, e_aCons, e_aNil, e_V, List.getElem?_cons_zero, List.getElem?_cons_succ, bind_ok, th_d, datas_d, datas_nil, Option.map_some, List.length_cons, List.length_nil, Nat.reduceAdd, Nat.reduceLeDiff, if_true, wp_ok]
            exact k5 (.d (pP (0 + (a : Int), 0 + (b : Int)))) _ (pP (0 + (a : Int), 0 + (b : Int))) rfl ⟨q ++ [(0 + (a : Int), 0 + (b : Int))], l3, by simp, ⟨by simp; exact g1, fun p hp => by
              rcases List.mem_append.mp hp with hp | hp
              · exact g2 p hp
              · rw [List.mem_singleton.mp hp]; dsimp only; omega⟩, hl3, rfl⟩
          · simp only [wipeE, List.foldl, List.set_cons_zero, List.set_cons_succ, e_tst, e_2, e_Call, e_aCons, e_aNil, e_V, e_K, List.getElem?_cons_zero, List.getElem?_cons_succ, bind_ok, th_c, th_d, e3, mm, o_gt, decide_eq_false cc1, wp_ok]
            exact k4 _ ⟨q, l3, rfl, ⟨by simp; omega, g2⟩, hl3, rfl⟩
        · rintro acc T ⟨q, l, rfl, ⟨g1, g2⟩, hl, rfl⟩
          rw [List.length_range] at g1
          exact ⟨q, l, rfl, ⟨g1, g2⟩, hl, rfl⟩
      obtain ⟨v, T, ev, q, l', rfl, ⟨g1, g2⟩, hl', rfl⟩ := key.ex
      have pm : pre.length * pre.length ≤ 81 := by
        have : pre.length ≤ 9 := by omega
        exact Nat.mul_le_mul this this
      rw [e_sEx, e_Mt]
      simp only [List.set_cons_zero, List.set_cons_succ, e_V, List.getElem?_cons_zero, List.getElem?_cons_succ, bind_ok, th_c, tyx, if_true, e_aCons, ev, th_f, data_lst, e_aNil, exx l' R qs q (by omega), wp_ok]
      refine k1 _ _ ⟨l', qs ++ q, _, hl', ⟨?_, fun p hp => ?_⟩, rfl, rfl⟩
      · rw [List.length_append, List.length_append, List.length_singleton]
        have : (pre.length + 1) * (pre.length + 1) = pre.length * pre.length + 2 * pre.length + 1 := by
          rw [Nat.add_mul, Nat.mul_add]; omega
        omega
      · rcases List.mem_append.mp hp with hp | hp
        · exact qm p hp
        · exact g2 p hp
    · rintro ρ T ⟨l, qs, o7, hl, ⟨ql, qm⟩, rfl, rfl⟩
      rw [List.length_range] at ql
      have pm : many * many ≤ 81 := Nat.mul_le_mul hm hm
      exact next1 _ _ _ _ _ _ _ hl ⟨by omega, qm⟩
  · simp only [e_sIf, e_tst, e_2, e_Tup, e_aCons, e_aNil, e_V, e_K, List.getElem?_cons_zero, List.getElem?_cons_succ, bind_ok, th_d, datas_d, datas_nil, Option.map_some, List.length_cons, List.length_nil, Nat.reduceAdd, Nat.reduceLeDiff, if_true, inn, decide_eq_false c, Bool.false_eq_true, if_false, e_sNil, wp_ok]
    exact next1 _ _ _ _ _ _ _ hl2 (gp.up (by decide))
/-- what a drawn web is -/
structure ZW (many : Nat) (W : Web) : Prop where
  rp : Rise W.1
  n : W.1.length = many
  bd : ∀ a ∈ W.1, 0 ≤ a ∧ a ≤ 1000
  lt : ∀ t ∈ W.2, t.1 < t.2 ∧ t.1 ∈ W.1 ∧ t.2 ∈ W.1
  tl : W.2.length ≤ 60
  nd : W.2.Nodup
theorem rise_pl {P : List Int} (h : Rise P) {a b : Nat} (ab : a < b) (hb : b < P.length) : pl P a < pl P b := by
  unfold pl
  rw [List.getD_eq_getElem?_getD, List.getD_eq_getElem?_getD, List.getElem?_eq_getElem (by omega), List.getElem?_eq_getElem hb]
  exact List.pairwise_iff_getElem.mp h a b (by omega) hb ab
theorem pl_memZ {P : List Int} {a : Nat} (h : a < P.length) : pl P a ∈ P := by
  unfold pl
  rw [List.getD_eq_getElem?_getD, List.getElem?_eq_getElem h]
  exact List.getElem_mem h
theorem atZ {P : List Int} {x : Int} (h0 : 0 ≤ x) (h : x < P.length) : atI (dI P) x = some (.int (pl P x.toNat)) := at_nat h0 (by
  have : x.toNat < P.length := by omega
  rw [List.getElem?_map, List.getElem?_eq_getElem this]
  unfold pl
  rw [List.getD_eq_getElem?_getD, List.getElem?_eq_getElem this]
  rfl)
theorem web_ex {l : List PyData} (hn : S[i]? = some (.lst l)) (hl : HP l) (hm : many ≤ 9) :
    ∃ W l', m_l_web [.c i, .d (.int (many : Nat))] S = .ok (.d (pW W)) (S.set i (.lst l')) ∧ HP l' ∧ ZW many W := by
  have hz := hzZ
  suffices z : wp (m_l_web [.c i, .d (.int (many : Nat))] S) fun v S' => ∃ W l', v = .d (pW W) ∧ S' = S.set i (.lst l') ∧ HP l' ∧ ZW many W by
    obtain ⟨v, S', e, W, l', rfl, rfl, q⟩ := z.ex
    exact ⟨W, l', e, q⟩
  refine wp_fn rfl ?_
  simp only [List.map_cons, List.map_nil, List.replicate, List.cons_append, List.nil_append]
  obtain ⟨P, l1, e1, hl1, pn, pr, pb⟩ := places_ex (many := many) hn hl (by omega)
  obtain ⟨ps, l2, e2, hl2, ⟨g1, g2⟩, gr⟩ := pairs_ex (st_upd (k' := .lst l1) hn) hl1 hm
  rw [List.set_set] at e2
  refine wp_seqN fun K kn => ?_
  simp only [e_sSet, e_Call, e_aCons, e_aNil, e_V, List.getElem?_cons_zero, List.getElem?_cons_succ, bind_ok, th_c, th_d, e1, th_f, data_lst, wp_ok, List.set_cons_zero, List.set_cons_succ]
  refine kn _ _ ?_
  clear kn K
  refine wp_seqN fun K kn => ?_
  have src : iSeq (evCall m_l_pairs (aCons (evV 0) (aCons (evV 1) (aNil)))) [some (.c i), some (.d (.int (many : Nat))), some (.d (.list (dI P))), none, none, none] (S.set i (.lst l1)) = .ok ⟨dP ps, []⟩ (S.set i (.lst l2)) := by
    simp only [e_iSeq, e_Call, e_aCons, e_aNil, e_V, List.getElem?_cons_zero, List.getElem?_cons_succ, bind_ok, th_c, th_d, e2, th_f, data_lst, seq_l]
  let f : Int × Int → Int × Int := fun p => (pl P p.1.toNat, pl P p.2.toNat)
  have key : wp (evComp (iSeq (evCall m_l_pairs (aCons (evV 0) (aCons (evV 1) (aNil))))) (bTup [bName 4, bName 5]) (bYes) (evTup (aCons (ev2 gIx (evV 2) (evV 4)) (aCons (ev2 gIx (evV 2) (evV 5)) (aNil)))) [4, 5] [some (.c i), some (.d (.int (many : Nat))), some (.d (.list (dI P))), none, none, none] (S.set i (.lst l1))) fun v T => v = .f (.lst (dP (ps.map f))) ∧ T = S.set i (.lst l2) := by
    refine wp_compK (fun (pre : List (Int × Int)) acc T => acc = dP (pre.map f) ∧ T = S.set i (.lst l2)) ps pP src rfl (by omega) (fun _ _ _ _ => gok_nil) ⟨rfl, rfl⟩ ?_ ?_
    · rintro pre p post acc T e ⟨rfl, rfl⟩
      have pm := g2 p (by rw [e]; simp)
      refine ⟨_, by simp [wipeE, pP]; rfl, fun K3 k3 k4 => ?_⟩
      simp only [e_bYes, wp_ok]
      refine k3 _ fun K4 k5 => ?_
      have a1 := atZ (P := P) (x := p.1) pm.1 (by omega)
      have a2 := atZ (P := P) (x := p.2) (by omega) (by omega)
      simp only [e_Tup, e_2, e_aCons, e_aNil, e_V, List.getElem?_cons_zero, List.getElem?_cons_succ, bind_ok, th_d, o_ixL, a1, a2, datas_d, datas_nil, Option.map_some, List.length_cons, List.length_nil, Nat.reduceAdd, Nat.reduceLeDiff, if_true, wp_ok]
      exact k5 (.d (pP (f p))) _ (pP (f p)) rfl ⟨by simp, rfl⟩
    · rintro acc T ⟨rfl, rfl⟩
      exact ⟨rfl, rfl⟩
  obtain ⟨v, T, ev, rfl, rfl⟩ := key.ex
  simp only [e_sSet, ev, bind_ok, th_f, data_lst, wp_ok, List.set_cons_zero, List.set_cons_succ]
  refine kn _ _ ?_
  clear kn K
  simp only [e_sRt, e_Tup, e_Call, e_aCons, e_aNil, e_V, List.getElem?_cons_zero, List.getElem?_cons_succ, bind_ok, th_d, g_tupL, datas_d, datas_nil, Option.map_some, List.length_cons, List.length_nil, Nat.reduceAdd, Nat.reduceLeDiff, if_true, wp_ok]
  refine wp_out_d ⟨(P, ps.map f), l2, rfl, by simp, hl2, ⟨pr, pn, pb, fun t ht => ?_, by simp; exact g1, ?_⟩⟩
  · obtain ⟨p, hp, rfl⟩ := List.mem_map.mp ht
    have := g2 p hp
    exact ⟨rise_pl pr (a := p.1.toNat) (b := p.2.toNat) (by omega) (by omega), pl_memZ (P := P) (a := p.1.toNat) (by omega), pl_memZ (P := P) (a := p.2.toNat) (by omega)⟩
  · have nd : ps.Nodup := gr.imp fun {a b} h e => by
      subst e
      unfold pLt at h
      omega
    rw [List.Nodup, List.pairwise_map]
    refine nd.imp_of_mem fun {a b} ha hb ne e => ne ?_
    have qa := g2 a ha
    have qb := g2 b hb
    have inj : ∀ x y : Int, 0 ≤ x → 0 ≤ y → x < P.length → y < P.length → pl P x.toNat = pl P y.toNat → x = y := fun x y h1 h2 h3 h4 h => by
      rcases Int.lt_trichotomy x y with c | c | c
      · have := rise_pl pr (a := x.toNat) (b := y.toNat) (by omega) (by omega)
        omega
      · exact c
      · have := rise_pl pr (a := y.toNat) (b := x.toNat) (by omega) (by omega)
        omega
    exact Prod.ext (inj _ _ qa.1 qb.1 (by omega) (by omega) (congrArg Prod.fst e)) (inj _ _ (by omega) (by omega) (by omega) (by omega) (congrArg Prod.snd e))
end
end Z
set_option Elab.async false
set_option linter.all false
set_option maxRecDepth 100000
set_option maxHeartbeats 1000000
/-! what is near a place -/
namespace Z
open PySem PySem.Spec PyProof.Rows L2 MV
theorem near_eq (W : Web) (p : Int) (S : Sto) (hl : W.2.length ≤ 200) : m_near [.d (pW W), .d (.int p)] S = .ok (.d (pT (nearL W p))) S := by
  have hz : (1000 : Nat) ≤ sizeLine := by decide
  refine fn_eq rfl (S1 := S) ?_ (fun r h => by rw [← h]; simp)
  simp [y_near, pW, pTs]
  rw [comp_pure W.2 pP (fun t => t.2 == p) (fun t => .int t.1) (by simp) rfl gok_nil (by omega) (fun t ht => ⟨_, by simp [pP, wipeE]; rfl, by simp, fun _ => ⟨_, by simp; rfl, rfl⟩⟩)]
  simp
  rw [comp_pure W.2 pP (fun t => t.1 == p) (fun t => .int t.2) (by simp) rfl gok_nil (by omega) (fun t ht => ⟨_, by simp [pP, wipeE]; rfl, by simp, fun _ => ⟨_, by simp; rfl, rfl⟩⟩)]
  have h1 := List.length_filter_le (fun t : Int × Int => t.2 == p) W.2
  have h2 := List.length_filter_le (fun t : Int × Int => t.1 == p) W.2
  simp
  rw [o_addL rfl rfl (by simp; omega)]
  simp
  rw [sorted_int (t := false) (g := []) (ns := (W.2.filter fun t => t.2 == p).map (·.1) ++ (W.2.filter fun t => t.1 == p).map (·.2)) (by simp [Function.comp_def]) (by simp; omega)]
  simp [pT, nearL, Function.comp_def]
end Z
set_option Elab.async false
set_option linter.all false
set_option maxRecDepth 100000
set_option maxHeartbeats 1000000
/-! Sets as numbers; the cost by spread; tables. -/
namespace Z
open PySem PySem.Spec PyProof.Rows L2 MV
def dZ (l : List Nat) : List PyData := l.map fun k => .int (k : Nat)
@[simp] theorem dZ_len (l : List Nat) : (dZ l).length = l.length := by simp [dZ]
theorem bit_testZ (x k : Nat) (S : Sto) : ∃ y, gShr (.d (.int (x : Nat))) (.d (.int (k : Nat))) S = .ok (.d (.int y)) S ∧ gAnd (.d (.int y)) (.d (.int 1)) S = .ok (.d (.int ((x / 2 ^ k % 2 : Nat) : Int))) S := by
  refine ⟨((x / 2 ^ k : Nat) : Int), ?_, ?_⟩
  · unfold gShr
    rw [o_int, if_pos (decide_eq_true (by omega)), Int.toNat_natCast]
    congr 3
  · have := an_nn (x / 2 ^ k) 1 S
    rw [Nat.and_one_is_mod] at this
    exact this
theorem div_bit (x k : Nat) : (x / 2 ^ k % 2 == 1) = x.testBit k := by
  rw [Nat.testBit_eq_decide_div_mod_eq]
  rfl
theorem bitsL_succ (k x : Nat) : bitsL (k + 1) x = bitsL k x ++ (if x.testBit k = true then [k] else []) := by
  unfold bitsL
  rw [List.range_succ, List.filter_append]
  congr 1
  rw [List.filter_cons]
  split <;> rfl
theorem bitsL_stop {n k x : Nat} (hk : k ≤ n) (h : x < 2 ^ k) : bitsL n x = bitsL k x := by
  refine riseN_ext (bitsL_rise _ _) (bitsL_rise _ _) fun a => ?_
  rw [mem_bitsL, mem_bitsL]
  constructor
  · rintro ⟨_, h2⟩
    exact ⟨bit_lt h h2, h2⟩
  · rintro ⟨h1, h2⟩
    exact ⟨by omega, h2⟩
theorem members_eq {n x : Nat} (hx : x < 2 ^ n) (hn : n ≤ 20) (S : Sto) : m_members [.d (.int (x : Nat))] S = .ok (.f (.lst (dZ (bitsL n x)))) S := by
  have hz := hzZ
  suffices z : wp (m_members [.d (.int (x : Nat))] S) fun v S' => v = .f (.lst (dZ (bitsL n x))) ∧ S' = S by
    obtain ⟨v, S', e, rfl, rfl⟩ := z.ex
    exact e
  refine wp_fn rfl ?_
  simp only [List.map_cons, List.map_nil, List.replicate, List.cons_append, List.nil_append]
  refine wp_seqN fun K kn => ?_
  simp only [e_sCell, e_Lst, e_aNil, bind_ok, datas_nil, List.length_nil, Nat.zero_le, if_true, wp_ok, List.set_cons_zero, List.set_cons_succ]
  refine kn _ _ ?_
  clear kn K
  refine wp_seqN fun K kn => ?_
  simp only [e_sSet, e_K, bind_ok, th_d, wp_ok, List.set_cons_zero, List.set_cons_succ]
  refine kn _ _ ?_
  clear kn K
  refine wp_seqN fun K kn => ?_
  refine wp_whileK (fun m ρ T => ∃ k, k ≤ n ∧ m = n - k ∧ ρ = [some (.d (.int ((x / 2 ^ k : Nat) : Int))), some (.c S.length), some (.d (.int (k : Nat)))] ∧ T = S ++ [.lst (dZ (bitsL k x))]) ?_ 1000000 n _ _ (by omega) ⟨0, Nat.zero_le _, rfl, by simp, rfl⟩
  rintro m ρ T ⟨k, hk, rfl, rfl, rfl⟩ K1 kt kf
  have hc : (S ++ [Cell.lst (dZ (bitsL k x))])[S.length]? = some (.lst (dZ (bitsL k x))) := by simp
  by_cases c : 0 < x / 2 ^ k
  · have kl : k < n := by
      refine Classical.byContradiction fun q => ?_
      have : k = n := by omega
      subst this
      rw [Nat.div_eq_of_lt hx] at c
      omega
    have c' : (0 : Int) < ((x / 2 ^ k : Nat) : Int) := by omega
    simp only [e_tst, e_2, e_V, e_K, List.getElem?_cons_zero, List.getElem?_cons_succ, bind_ok, th_d, o_gt, decide_eq_true c', wp_ok]
    refine kt _ fun K2 k2 k2r => ?_
    clear kt kf
    refine wp_seqN fun K3 k3 => ?_
    have an : gAnd (.d (.int ((x / 2 ^ k : Nat) : Int))) (.d (.int 1)) (S ++ [Cell.lst (dZ (bitsL k x))]) = .ok (.d (.int ((x / 2 ^ k % 2 : Nat) : Int))) (S ++ [Cell.lst (dZ (bitsL k x))]) := by
      have := an_nn (x / 2 ^ k) 1 (S ++ [Cell.lst (dZ (bitsL k x))])
      rw [Nat.and_one_is_mod] at this
      exact this
    have bt : (((x / 2 ^ k % 2 : Nat) : Int) == 1) = x.testBit k := by
      rw [← div_bit, Bool.eq_iff_iff, beq_iff_eq, beq_iff_eq]
      omega
    have go : K3 (.nx [some (.d (.int ((x / 2 ^ k : Nat) : Int))), some (.c S.length), some (.d (.int (k : Nat)))]) (S ++ [.lst (dZ (bitsL (k + 1) x))]) := by
      refine k3 _ _ ?_
      clear k3 K3
      refine wp_seqN fun K3 k3 => ?_
      have sh : ∀ U : Sto, gShr (.d (.int ((x / 2 ^ k : Nat) : Int))) (.d (.int 1)) U = .ok (.d (.int ((x / 2 ^ (k + 1) : Nat) : Int))) U := fun U => by
        unfold gShr
        rw [o_int, if_pos (decide_eq_true (by decide))]
        congr 3
        rw [Nat.pow_succ, ← Nat.div_div_eq_div_mul]
        rfl
      simp only [e_sSet, e_2, e_V, e_K, List.getElem?_cons_zero, List.getElem?_cons_succ, bind_ok, th_d, sh, wp_ok, List.set_cons_zero, List.set_cons_succ]
      refine k3 _ _ ?_
      have ag : ∀ U : Sto, gInt (fun _ _ => true) (fun i j => PyData.int (i + j)) (.d (.int (k : Nat))) (.d (.int 1)) U = .ok (.d (.int ((k + 1 : Nat) : Int))) U := fun U => rfl
      simp only [e_sAug, e_K, List.getElem?_cons_zero, List.getElem?_cons_succ, bind_ok, th_d, ag, wp_ok, List.set_cons_zero, List.set_cons_succ]
      exact k2 (n - (k + 1)) _ _ (by omega) ⟨k + 1, kl, rfl, rfl, rfl⟩
    rw [bitsL_succ] at go
    cases hb : x.testBit k with
    | true =>
      rw [hb, if_pos rfl] at go
      rw [hb] at bt
      have bl := bitsL_le k x
      have ap := app_c (y := .int (k : Nat)) hc (by rw [dZ_len]; omega)
      rw [show (S ++ [Cell.lst (dZ (bitsL k x))]).set S.length (.lst (dZ (bitsL k x) ++ [.int (k : Nat)])) = S ++ [Cell.lst (dZ (bitsL k x ++ [k]))] by simp [dZ]] at ap
      simp only [e_sIf, e_tst, e_2, e_V, e_K, List.getElem?_cons_zero, List.getElem?_cons_succ, bind_ok, th_d, an, o_eqI, bt, if_true, e_sEx, e_Mt, th_c, ty_lZ hc, e_aCons, e_aNil, ap, wp_ok]
      exact go
    | false =>
      rw [hb, if_neg Bool.false_ne_true, List.append_nil] at go
      rw [hb] at bt
      simp only [e_sIf, e_tst, e_2, e_V, e_K, List.getElem?_cons_zero, List.getElem?_cons_succ, bind_ok, th_d, an, o_eqI, bt, Bool.false_eq_true, if_false, e_sNil, wp_ok]
      exact go
  · have c' : ¬ (0 : Int) < ((x / 2 ^ k : Nat) : Int) := by omega
    simp only [e_tst, e_2, e_V, e_K, List.getElem?_cons_zero, List.getElem?_cons_succ, bind_ok, th_d, o_gt, decide_eq_false c', wp_ok]
    refine kf _ (kn _ _ ?_)
    have xk : x < 2 ^ k := by
      refine Classical.byContradiction fun q => c ?_
      exact Nat.div_pos (by omega) (Nat.pow_pos (by decide))
    simp only [e_sRt, e_V, List.getElem?_cons_zero, List.getElem?_cons_succ, bind_ok, wp_ok]
    show wp (out S.length (S ++ [Cell.lst (dZ (bitsL k x))]) (.c S.length)) _
    rw [out_c (Nat.lt_irrefl _) hc, wp_ok, bitsL_stop hk xk]
    exact ⟨rfl, by simp⟩
theorem outside_eq (a b : Nat) (S : Sto) : m_outside [.d (.int (a : Nat)), .d (.int (b : Nat))] S = .ok (.d (.int ((anot a b : Nat) : Int))) S := by
  suffices z : wp (m_outside [.d (.int (a : Nat)), .d (.int (b : Nat))] S) fun v S' => v = .d (.int ((anot a b : Nat) : Int)) ∧ S' = S by
    obtain ⟨v, S', e, rfl, rfl⟩ := z.ex
    exact e
  refine wp_fn rfl ?_
  have le : a &&& b ≤ a := Nat.and_le_left
  simp only [y_outside, List.map_cons, List.map_nil, List.replicate, List.cons_append, List.nil_append, e_sRt, e_2, e_V, List.getElem?_cons_zero, List.getElem?_cons_succ, bind_ok, th_d, an_nn, o_sub, wp_ok]
  refine wp_out_d ?_
  refine ⟨?_, by simp⟩
  unfold anot
  rw [show (a : Int) - ((a &&& b : Nat) : Int) = ((a - (a &&& b) : Nat) : Int) by omega]
def TL (n : Nat) (adj : Nat → Nat) : List Nat := (List.range n).map adj
theorem TL_len (n : Nat) (adj : Nat → Nat) : (TL n adj).length = n := by simp [TL]
theorem TL_at {n : Nat} {adj : Nat → Nat} {i : Nat} (h : i < n) : atI (dZ (TL n adj)) (i : Nat) = some (.int ((adj i : Nat) : Int)) := at_nat (by omega) (by simp [dZ, TL, h])
/-- has a place of a set a tie out of it -/
def outB (adj : Nat → Nat) (x i : Nat) : Bool := decide (0 < anot (adj i) x)
def spC (n : Nat) (adj : Nat → Nat) (x : Nat) : Nat := ((bitsL n x).filter (outB adj x)).length
theorem spC_one {n : Nat} {adj : Nat → Nat} {x i : Nat} (h : i ∈ bitsL n x) : ((bitsL n x).filter fun k => !decide (k = i) && outB adj x k).length + (if outB adj x i = true then 1 else 0) = spC n adj x := by
  unfold spC
  have nd := bitsL_nodup n x
  generalize bitsL n x = l at h nd
  induction l with
  | nil => cases h
  | cons a l ih =>
    rw [List.nodup_cons] at nd
    by_cases c : a = i
    · subst c
      have e : (l.filter fun k => !decide (k = a) && outB adj x k) = l.filter (outB adj x) := List.filter_congr fun k hk => by
        have : k ≠ a := fun e => nd.1 (e ▸ hk)
        simp [this]
      rw [List.filter_cons_of_neg (by simp), e, List.filter_cons]
      split <;> simp
    · have hm : i ∈ l := by
        rcases List.mem_cons.mp h with rfl | h
        · exact absurd rfl c
        · exact h
      have := ih hm nd.2
      rw [List.filter_cons, List.filter_cons]
      by_cases c2 : outB adj x a = true
      · rw [if_pos (by simp [c, c2]), if_pos c2, List.length_cons, List.length_cons]
        omega
      · rw [if_neg (by simp [c2]), if_neg c2]
        exact this
theorem spread_cost_eq {n x i : Nat} {adj : Nat → Nat} (hx : x < 2 ^ n) (hn : n ≤ 20) (hi : i ∈ bitsL n x) (S : Sto) : m_spread_cost [.d (.list (dZ (TL n adj))), .d (.int (x : Nat)), .d (.int (i : Nat))] S = .ok (.d (.int ((spC n adj x : Nat) : Int))) S := by
  have hz := hzZ
  suffices z : wp (m_spread_cost [.d (.list (dZ (TL n adj))), .d (.int (x : Nat)), .d (.int (i : Nat))] S) fun v S' => v = .d (.int ((spC n adj x : Nat) : Int)) ∧ S' = S by
    obtain ⟨v, S', e, rfl, rfl⟩ := z.ex
    exact e
  refine wp_fn rfl ?_
  simp only [List.map_cons, List.map_nil, List.replicate, List.cons_append, List.nil_append]
  refine wp_seqN fun K kn => ?_
  have bl := bitsL_le n x
  have og : ∀ (k : Nat) (U : Sto), gGt (.d (.int ((anot (adj k) x : Nat) : Int))) (.d (.int 0)) U = .ok (.d (.bool (outB adj x k))) U := fun k U => by
    rw [o_gt]
    unfold outB
    congr 3
    rw [Bool.eq_iff_iff, decide_eq_true_iff, decide_eq_true_iff]
    omega
  rw [e_sSet, comp_pure (bitsL n x) (fun k => .int (k : Nat)) (fun k => !decide (k = i) && outB adj x k) (fun k => .int (k : Nat)) (s := ⟨dZ (bitsL n x), []⟩) (by
    simp only [e_iSeq, e_Call, e_aCons, e_aNil, e_V, List.getElem?_cons_zero, List.getElem?_cons_succ, bind_ok, th_d, members_eq hx hn, th_f, data_lst, seq_l]) rfl gok_nil (by omega) (fun k hk => ⟨_, by simp [wipeE]; rfl, by
      have kn' : k < n := (mem_bitsL.mp hk).1
      have ne : gNe (.d (.int (k : Nat))) (.d (.int (i : Nat))) S = .ok (.d (.bool (!decide (k = i)))) S := by
        rw [o_neI]
        congr 3
        rw [Bool.eq_iff_iff]
        simp
        omega
      simp only [e_bAnd, e_tst, e_2, e_Call, e_aCons, e_aNil, e_V, e_K, List.getElem?_cons_zero, List.getElem?_cons_succ, bind_ok, th_d, ne, o_ixL, TL_at kn', outside_eq, og]
      cases decide (k = i) <;> rfl, fun _ => ⟨_, rfl, rfl⟩⟩)]
  simp only [bind_ok, th_f, data_lst, wp_ok, List.set_cons_zero, List.set_cons_succ]
  refine kn _ _ ?_
  clear kn K
  have il : i < n := (mem_bitsL.mp hi).1
  simp only [e_sRt, e_2, e_Call, e_aCons, e_aNil, e_V, e_K, List.getElem?_cons_zero, List.getElem?_cons_succ, bind_ok, th_d, g_lenL, o_ixL, TL_at il, outside_eq, og, g_intB, o_add, wp_ok]
  refine wp_out_d ?_
  refine ⟨?_, by simp⟩
  rw [← spC_one hi, List.length_map]
  split <;> simp
end Z
set_option Elab.async false
set_option linter.all false
set_option maxRecDepth 100000
set_option maxHeartbeats 1000000
/-! Tables of all sets. -/
namespace Z
open PySem PySem.Spec PyProof.Rows L2 MV
def minN : List Nat → Nat
  | [] => 0
  | x :: xs => xs.foldl min x
theorem foldl_minN : ∀ (xs : List Nat) (x : Nat), (xs.foldl min x = x ∨ xs.foldl min x ∈ xs) ∧ xs.foldl min x ≤ x ∧ ∀ y ∈ xs, xs.foldl min x ≤ y
  | [], x => ⟨.inl rfl, Nat.le_refl _, fun _ h => nomatch h⟩
  | y :: xs, x => by
    obtain ⟨h1, h2, h3⟩ := foldl_minN xs (min x y)
    rw [List.foldl_cons]
    refine ⟨?_, by omega, fun z hz => ?_⟩
    · rcases h1 with h1 | h1
      · rw [h1]
        rcases Nat.le_total x y with c | c
        · exact .inl (Nat.min_eq_left c)
        · exact .inr (by rw [Nat.min_eq_right c]; simp)
      · exact .inr (List.mem_cons_of_mem _ h1)
    · rcases List.mem_cons.mp hz with rfl | hz
      · omega
      · exact h3 z hz
theorem minN_mem {l : List Nat} (h : l ≠ []) : minN l ∈ l := by
  cases l with
  | nil => exact absurd rfl h
  | cons x xs =>
    rcases (foldl_minN xs x).1 with e | e
    · rw [minN, e]; simp
    · exact List.mem_cons_of_mem _ e
theorem minN_le {l : List Nat} {y : Nat} (h : y ∈ l) : minN l ≤ y := by
  cases l with
  | nil => cases h
  | cons x xs =>
    obtain ⟨_, h2, h3⟩ := foldl_minN xs x
    rcases List.mem_cons.mp h with rfl | h
    · exact h2
    · exact h3 y h
theorem foldl_cast : ∀ (xs : List Nat) (x : Nat), (xs.map fun (k : Nat) => (k : Int)).foldl min (x : Int) = ((xs.foldl min x : Nat) : Int)
  | [], x => rfl
  | y :: xs, x => by
    rw [List.map_cons, List.foldl_cons, List.foldl_cons, show min (x : Int) (y : Int) = ((min x y : Nat) : Int) by omega, foldl_cast]
theorem dZ_I (l : List Nat) : dZ l = dI (l.map fun (k : Nat) => (k : Int)) := by
  show _ = List.map PyData.int _
  rw [List.map_map]
  rfl
theorem min_Z {l : List Nat} (h : l ≠ []) (S : Sto) : gMin [.d (.list (dZ l))] S = .ok (.d (.int ((minN l : Nat) : Int))) S := by
  have e : (asR S (.d (.list (dZ l)))).bind intsOf = some (l.map fun (k : Nat) => (k : Int)) := by
    unfold asR
    simp only [seq_l]
    rw [dZ_I]
    exact ints_dI _
  cases l with
  | nil => exact absurd rfl h
  | cons x xs =>
    unfold gMin
    simp only [e]
    show Res.ok (Val.d (PyData.int ((xs.map fun (k : Nat) => (k : Int)).foldl min (x : Int)))) S = _
    rw [foldl_cast]
    rfl
/-- the greatest numbers of all sets, up to one -/
def tabs (n : Nat) (c : Nat → Nat → Nat) : Nat → List Nat
  | 0 => [0]
  | k + 1 => tabs n c k ++ [minN ((bitsL n (k + 1)).map fun i => max ((tabs n c k).getD (k + 1 - 2 ^ i) 0) (c (k + 1) i))]
def tab (n : Nat) (c : Nat → Nat → Nat) (x : Nat) : Nat := (tabs n c x).getD x 0
section
variable {n : Nat} {c : Nat → Nat → Nat}
theorem tabs_len : ∀ k, (tabs n c k).length = k + 1
  | 0 => rfl
  | k + 1 => by rw [tabs, List.length_append, tabs_len k]; rfl
theorem tabs_at : ∀ {k j : Nat}, j ≤ k → (tabs n c k)[j]? = some (tab n c j)
  | k, j, h => by
    induction k with
    | zero =>
      have : j = 0 := by omega
      subst this
      rfl
    | succ k ih =>
      rcases Nat.lt_or_ge k j with q | q
      · have : j = k + 1 := by omega
        subst this
        unfold tab
        rw [List.getD_eq_getElem?_getD, List.getElem?_eq_getElem (by rw [tabs_len]; omega)]
        rfl
      · rw [tabs, List.getElem?_append_left (by rw [tabs_len]; omega)]
        exact ih q
theorem tabs_getD {k j : Nat} (h : j ≤ k) : (tabs n c k).getD j 0 = tab n c j := by
  rw [List.getD_eq_getElem?_getD, tabs_at h]
  rfl
theorem tab_zero : tab n c 0 = 0 := rfl
theorem tab_next {k : Nat} : tab n c (k + 1) = minN ((bitsL n (k + 1)).map fun i => max (tab n c (k + 1 - 2 ^ i)) (c (k + 1) i)) := by
  unfold tab
  rw [List.getD_eq_getElem?_getD, tabs, List.getElem?_append_right (by rw [tabs_len]; omega), tabs_len]
  simp only [Nat.sub_self, List.getElem?_cons_zero, Option.getD_some]
  congr 1
  refine List.map_congr_left fun i _ => ?_
  have p : 0 < 2 ^ i := Nat.pow_pos (by decide)
  rw [tabs_getD (by omega)]
  rfl
theorem tab_step {x : Nat} (h : 0 < x) : tab n c x = minN ((bitsL n x).map fun i => max (tab n c (x - 2 ^ i)) (c x i)) := by
  obtain ⟨k, rfl⟩ : ∃ k, x = k + 1 := ⟨x - 1, by omega⟩
  exact tab_next
theorem bitsL_ne {x : Nat} (h : 0 < x) (hx : x < 2 ^ n) : bitsL n x ≠ [] := by
  obtain ⟨k, hk, _⟩ := least_bit (x := x) (by omega)
  exact List.ne_nil_of_mem (mem_bitsL.mpr ⟨bit_lt hx hk, hk⟩)
theorem pow_le_bit {x i : Nat} (h : x.testBit i = true) : 2 ^ i ≤ x := Nat.ge_two_pow_of_testBit h
end
theorem shlZ (k : Nat) (h : k ≤ 1000) (T : Sto) : gShl (.d (.int 1)) (.d (.int (k : Nat))) T = .ok (.d (.int ((2 ^ k : Nat) : Int))) T := shl1 k h T
theorem ix_Z {tv : Val} {l : List Nat} {S : Sto} (hs : (∃ m, tv = .c m ∧ S[m]? = some (.lst (dZ l))) ∨ tv = .d (.tuple (dZ l)) ∨ tv = .d (.list (dZ l))) {j v : Nat} (h : l[j]? = some v) : gIx tv (.d (.int (j : Nat))) S = .ok (.d (.int (v : Nat))) S ∧ tv.th = tv := by
  have a : atI (dZ l) (j : Nat) = some (.int (v : Nat)) := at_nat (by omega) (by simp [dZ, h])
  rcases hs with ⟨m, rfl, hm⟩ | rfl | rfl
  · rw [o_ixC hm, a]; exact ⟨rfl, rfl⟩
  · rw [o_ixT, a]; exact ⟨rfl, rfl⟩
  · rw [o_ixL, a]; exact ⟨rfl, rfl⟩
theorem e_CallV {i : Nat} {T : List (Str × Fn)} {f : SA} {ρ : Envi} {S : Sto} {nm : Str} {m : Fn} (h : ρ[i]? = some (some (.o nm))) (hm : T.lookup nm = some m) : evCallV i T f ρ S = evCall m f ρ S := by
  unfold evCallV fnAt
  rw [h]
  dsimp only
  rw [hm]
/-- what a cost gives -/
def CostIs (nm : Str) (m : Fn) (n : Nat) (adj : Nat → Nat) (c : Nat → Nat → Nat) : Prop := ∀ {x i : Nat}, x < 2 ^ n → i ∈ bitsL n x → ∀ S : Sto, m [.d (.list (dZ (TL n adj))), .d (.int (x : Nat)), .d (.int (i : Nat))] S = .ok (.d (.int ((c x i : Nat) : Int))) S
theorem sp_cost {n : Nat} {adj : Nat → Nat} (hn : n ≤ 20) (nm : Str) : CostIs nm m_spread_cost n adj fun x _ => spC n adj x := fun hx hi S => spread_cost_eq hx hn hi S
section
variable {n : Nat} {adj : Nat → Nat} {c : Nat → Nat → Nat} {nm : Str} {m : Fn} {S : Sto}
theorem max_ZZ (a b : Nat) (T : Sto) : gMax [.d (.int (a : Nat)), .d (.int (b : Nat))] T = .ok (.d (.int ((max a b : Nat) : Int))) T := by
  rw [g_max2]
  congr 3
  split <;> omega
theorem last_eq {FT : List (Str × Fn)} (hL : m_last_cost = mkFn 5 5 (sRt (evCall gMax (aCons (ev2 gIx (evV 1) (ev2 gSub (evV 2) (ev2 gShl (evK (.int 1)) (evV 3)))) (aCons (evCallV 4 FT (aCons (evV 0) (aCons (evV 2) (aCons (evV 3) (aNil))))) (aNil)))))) (hT : FT.lookup nm = some m)
    (hc : CostIs nm m n adj c) (hn : n ≤ 20) {x i : Nat} (hx : x < 2 ^ n) (hi : i ∈ bitsL n x) {k : Nat} (xk : x ≤ k + 1) {tv : Val} (hs : (∃ m, tv = .c m ∧ S[m]? = some (.lst (dZ (tabs n c k)))) ∨ tv = .d (.tuple (dZ (tabs n c k))) ∨ tv = .d (.list (dZ (tabs n c k)))) :
    m_last_cost [.d (.list (dZ (TL n adj))), tv, .d (.int (x : Nat)), .d (.int (i : Nat)), .o nm] S = .ok (.d (.int ((max (tab n c (x - 2 ^ i)) (c x i) : Nat) : Int))) S := by
  suffices z : wp (m_last_cost [.d (.list (dZ (TL n adj))), tv, .d (.int (x : Nat)), .d (.int (i : Nat)), .o nm] S) fun v S' => v = .d (.int ((max (tab n c (x - 2 ^ i)) (c x i) : Nat) : Int)) ∧ S' = S by
    obtain ⟨v, S', e, rfl, rfl⟩ := z.ex
    exact e
  rw [hL]
  refine wp_fn rfl ?_
  have ib := mem_bitsL.mp hi
  have pl := pow_le_bit ib.2
  have pp : 0 < 2 ^ i := Nat.pow_pos (by decide)
  obtain ⟨ix, th⟩ := ix_Z hs (tabs_at (n := n) (c := c) (k := k) (j := x - 2 ^ i) (by omega))
  have sb : (x : Int) - ((2 ^ i : Nat) : Int) = ((x - 2 ^ i : Nat) : Int) := by omega
  simp only [List.map_cons, List.map_nil, List.replicate, List.cons_append, List.nil_append, e_sRt]
  rw [e_Call, e_aCons]
  simp only [e_2, e_V, e_K, List.getElem?_cons_zero, List.getElem?_cons_succ, bind_ok, th_d, shlZ i (by omega), o_sub, th, sb, ix, e_aCons, e_aNil]
  rw [e_CallV (nm := nm) (m := m) rfl hT]
  simp only [e_Call, e_aCons, e_aNil, e_V, List.getElem?_cons_zero, List.getElem?_cons_succ, bind_ok, th_d, hc hx hi, max_ZZ, wp_ok]
  exact wp_out_d ⟨rfl, by simp⟩
end
end Z
set_option Elab.async false
set_option linter.all false
set_option maxRecDepth 100000
set_option maxHeartbeats 1000000
/-! Ties by place; the table by a cost. -/
namespace Z
open PySem PySem.Spec PyProof.Rows L2 MV
theorem e_Mt2Z {gL gT : Val → List Val → Sto → Res Val} {f : Sx} {g : SA} {ρ : Envi} {S : Sto} {ds : List PyData} (h : f ρ S = .ok (.d (.tuple ds)) S) : evMt2 gL gT f g ρ S = (g ρ S).bind fun vs S2 => gT (.d (.tuple ds)) vs S2 := by
  unfold evMt2
  rw [h]
  rfl
theorem idx_Z {P : List Int} {k : Int} (hk : k ∈ P) (S : Sto) : gIdxT (.d (.tuple (dI P))) [.d (.int k)] S = .ok (.d (.int (P.idxOf k : Nat))) S := by
  unfold gIdxT fIdx
  simp only [ints_dI, if_pos hk]
theorem pl_idx {P : List Int} {k : Int} (h : k ∈ P) : P.idxOf k < P.length ∧ pl P (P.idxOf k) = k := by
  have hl := List.idxOf_lt_length_of_mem h
  refine ⟨hl, ?_⟩
  unfold pl
  rw [List.getD_eq_getElem?_getD, List.getElem?_eq_getElem hl]
  exact List.getElem_idxOf hl
theorem idx_pl {P : List Int} (nd : P.Nodup) {i : Nat} (h : i < P.length) : P.idxOf (pl P i) = i := by
  unfold pl
  rw [List.getD_eq_getElem?_getD, List.getElem?_eq_getElem h]
  exact nd.idxOf_getElem i h
section
variable {W : Web} {many : Nat}
/-- the mask of some places -/
def mskP (P : List Int) (xs : List Int) : Nat := maskOf P.length fun j => decide (pl P j ∈ xs)
theorem mskP_nil (P : List Int) : mskP P [] = 0 := mask_zero.mpr fun i _ => by simp
theorem mskP_add {P : List Int} (nd : P.Nodup) {xs : List Int} {k : Int} (hk : k ∈ P) : mskP P xs ||| 2 ^ P.idxOf k = mskP P (xs ++ [k]) := tb_ext fun i => by
  obtain ⟨h1, h2⟩ := pl_idx hk
  unfold mskP
  rw [Nat.testBit_or, tb_mask, tb_mask, Nat.testBit_two_pow]
  by_cases c : i < P.length
  · have e : (P.idxOf k = i) ↔ pl P i = k := ⟨fun e => e ▸ h2, fun e => by rw [← e]; exact idx_pl nd c⟩
    by_cases c2 : pl P i = k
    · simp [c, c2, e.mpr c2]
    · have c3 : ¬ P.idxOf k = i := fun q => c2 (e.mp q)
      simp [c, c2, c3]
  · have c3 : ¬ P.idxOf k = i := by omega
    simp [c, c3]
theorem adj_near (W : Web) (i : Nat) : mskP W.1 (nearL W (pl W.1 i)) = adjM W.1 W.2 i := mask_congr fun j _ => by
  unfold tied2
  rw [Bool.eq_iff_iff, decide_eq_true_iff, decide_eq_true_iff, mem_nearL]
  unfold nbr
  exact ⟨fun h => h.elim .inl .inr, fun h => h.elim .inl .inr⟩
theorem near_sub (h : ZW many W) {p x : Int} (hx : x ∈ nearL W p) : x ∈ W.1 := by
  have := mem_nearL.mp hx
  unfold nbr at this
  rcases this with t | t
  · exact (h.lt _ t).2.2
  · exact (h.lt _ t).2.1
theorem ties_by_eq (h : ZW many W) (hm : many ≤ 9) (S : Sto) : m_ties_by_place [.d (pW W)] S = .ok (.f (.lst (dZ (TL many (adjM W.1 W.2))))) S := by
  have hz := hzZ
  have tl := h.tl
  have nd : W.1.Nodup := h.rp.nodup
  suffices z : wp (m_ties_by_place [.d (pW W)] S) fun v S' => v = .f (.lst (dZ (TL many (adjM W.1 W.2)))) ∧ S' = S by
    obtain ⟨v, S', e, rfl, rfl⟩ := z.ex
    exact e
  refine wp_fn rfl ?_
  simp only [List.map_cons, List.map_nil, List.replicate, List.cons_append, List.nil_append]
  refine wp_seqN fun K kn => ?_
  simp only [e_sSet, e_2, e_V, e_K, List.getElem?_cons_zero, List.getElem?_cons_succ, bind_ok, th_d, ix_W0, wp_ok, List.set_cons_zero, List.set_cons_succ]
  refine kn _ _ ?_
  clear kn K
  refine wp_seqN fun K kn => ?_
  simp only [e_sCell, e_Lst, e_aNil, bind_ok, datas_nil, List.length_nil, Nat.zero_le, if_true, wp_ok, List.set_cons_zero, List.set_cons_succ]
  refine kn _ _ ?_
  clear kn K
  refine wp_seqN fun K kn => ?_
  refine wp_forK (fun (pre : List Int) ρ T => ∃ o3 o4 o5, ρ = [some (.d (pW W)), some (.d (pT W.1)), some (.c S.length), o3, o4, o5] ∧ T = S ++ [.lst (dZ (pre.map fun p => mskP W.1 (nearL W p)))]) W.1 PyData.int (s := ⟨dI W.1, []⟩) (S1 := S ++ [.lst []]) (by simp) rfl (fun _ _ _ _ => gok_nil) ⟨none, none, none, rfl, rfl⟩ ?_ ?_
  · rintro pre p post ρ T e ⟨o3, o4, o5, rfl, rfl⟩
    have pm : p ∈ W.1 := by rw [e]; simp
    have pl9 : pre.length ≤ 9 := by
      have := congrArg List.length e
      rw [h.n] at this
      simp at this
      omega
    refine ⟨_, rfl, fun K1 k1 kr1 => ?_⟩
    refine wp_seqN fun K2 k2 => ?_
    simp only [List.set_cons_zero, List.set_cons_succ, e_sSet, e_K, bind_ok, th_d, wp_ok]
    refine k2 _ _ ?_
    clear k2 K2
    generalize hT : S ++ [Cell.lst (dZ (pre.map fun p => mskP W.1 (nearL W p)))] = T
    refine wp_seqN fun K2 k2 => ?_
    have nl := nearL_length W p
    refine wp_forK (fun (qre : List Int) ρ U => ∃ o5, ρ = [some (.d (pW W)), some (.d (pT W.1)), some (.c S.length), some (.d (.int p)), some (.d (.int ((mskP W.1 qre : Nat) : Int))), o5] ∧ U = T) (nearL W p) PyData.int (s := ⟨dI (nearL W p), []⟩) (S1 := T) (by
      simp only [e_iSeq, e_Call, e_aCons, e_aNil, e_V, List.getElem?_cons_zero, List.getElem?_cons_succ, bind_ok, th_d, near_eq W p T (by omega), seq_T]) rfl (fun _ _ _ _ => gok_nil) ⟨o5, by rw [mskP_nil]; rfl, rfl⟩ ?_ ?_
    · rintro qre x qost ρ U e2 ⟨o5, rfl, rfl⟩
      have xm : x ∈ W.1 := near_sub h (p := p) (by rw [e2]; simp)
      have xl := (pl_idx xm).1
      refine ⟨_, rfl, fun K3 k3 kr3 => ?_⟩
      have sh := shlZ (W.1.idxOf x) (by have := h.n; omega) U
      have og := or_nn (mskP W.1 qre) (2 ^ W.1.idxOf x) U
      rw [mskP_add nd xm] at og
      simp only [List.set_cons_zero, List.set_cons_succ, e_sSet]
      rw [e_2, e_V]
      simp only [List.getElem?_cons_zero, List.getElem?_cons_succ, bind_ok, th_d]
      rw [e_2, e_K, bind_ok, e_Mt2Z (ds := dI W.1) rfl]
      simp only [e_aCons, e_aNil, e_V, List.getElem?_cons_zero, List.getElem?_cons_succ, bind_ok, th_d, idx_Z xm, sh, og, wp_ok, List.set_cons_zero, List.set_cons_succ]
      exact k3 _ _ ⟨some (.d (.int x)), rfl, rfl⟩
    · rintro ρ U ⟨o5, rfl, rfl⟩
      refine k2 _ _ ?_
      clear k2 K2
      rw [← hT]
      have hc : (S ++ [Cell.lst (dZ (pre.map fun p => mskP W.1 (nearL W p)))])[S.length]? = some (.lst (dZ (pre.map fun p => mskP W.1 (nearL W p)))) := by simp
      have ap := app_c (y := .int ((mskP W.1 (nearL W p) : Nat) : Int)) hc (by simp; omega)
      rw [show (S ++ [Cell.lst (dZ (pre.map fun p => mskP W.1 (nearL W p)))]).set S.length (.lst (dZ (pre.map fun p => mskP W.1 (nearL W p)) ++ [.int ((mskP W.1 (nearL W p) : Nat) : Int)])) = S ++ [Cell.lst (dZ ((pre ++ [p]).map fun p => mskP W.1 (nearL W p)))] by simp [dZ]] at ap
      simp only [e_sEx, e_Mt, e_V, e_aCons, e_aNil, List.getElem?_cons_zero, List.getElem?_cons_succ, bind_ok, th_c, th_d, ty_lZ hc, if_true, ap, wp_ok]
      exact k1 _ _ ⟨_, _, _, rfl, rfl⟩
  · rintro ρ T ⟨o3, o4, o5, rfl, rfl⟩
    refine kn _ _ ?_
    have hc : (S ++ [Cell.lst (dZ (W.1.map fun p => mskP W.1 (nearL W p)))])[S.length]? = some (.lst (dZ (W.1.map fun p => mskP W.1 (nearL W p)))) := by simp
    simp only [e_sRt, e_V, List.getElem?_cons_zero, List.getElem?_cons_succ, bind_ok, wp_ok]
    show wp (out S.length (S ++ [Cell.lst (dZ (W.1.map fun p => mskP W.1 (nearL W p)))]) (.c S.length)) _
    rw [out_c (Nat.lt_irrefl _) hc, wp_ok]
    refine ⟨?_, by simp⟩
    congr 3
    unfold TL
    refine List.ext_getElem (by simp [h.n]) fun i h1 h2 => ?_
    simp only [List.getElem_map, List.getElem_range]
    have hi : i < W.1.length := by simpa using h1
    rw [← adj_near]
    unfold pl
    rw [List.getD_eq_getElem?_getD, List.getElem?_eq_getElem hi]
    rfl
end
section
variable {W : Web} {n : Nat} {c : Nat → Nat → Nat} {nm : Str} {m : Fn} {FT : List (Str × Fn)}
theorem pow9 {n : Nat} (h : n ≤ 9) : 2 ^ n ≤ 512 := (Nat.pow_le_pow_right (by decide) h : 2 ^ n ≤ 2 ^ 9)
end
end Z
set_option Elab.async false
set_option linter.all false
set_option maxRecDepth 100000
set_option maxHeartbeats 1000000
/-! Orders of places, in plain words. -/
namespace Z
open PySem PySem.Spec PyProof.Rows L2 MV
theorem and_bit {x i : Nat} (h : x.testBit i = true) : x &&& 2 ^ i = 2 ^ i := tb_ext fun j => by
  rw [Nat.testBit_and, Nat.testBit_two_pow]
  by_cases c : i = j
  · subst c; simp [h]
  · simp [c]
theorem sub_bit {x i : Nat} (h : x.testBit i = true) : x - 2 ^ i = anot x (2 ^ i) := by
  unfold anot
  rw [and_bit h]
theorem tb_sub {x i j : Nat} (h : x.testBit i = true) : (x - 2 ^ i).testBit j = (x.testBit j && !decide (i = j)) := by
  rw [sub_bit h, tb_anot, Nat.testBit_two_pow]
theorem sub_or {x i : Nat} (h : x.testBit i = true) : (x - 2 ^ i) ||| 2 ^ i = x := tb_ext fun j => by
  rw [Nat.testBit_or, tb_sub h, Nat.testBit_two_pow]
  by_cases c : i = j
  · subst c; simp [h]
  · simp [c]
theorem or_sub {x i : Nat} (h : x.testBit i = false) : (x ||| 2 ^ i) - 2 ^ i = x ∧ (x ||| 2 ^ i).testBit i = true := by
  have t : (x ||| 2 ^ i).testBit i = true := by rw [Nat.testBit_or, Nat.testBit_two_pow]; simp
  refine ⟨tb_ext fun j => ?_, t⟩
  rw [tb_sub t, Nat.testBit_or, Nat.testBit_two_pow]
  by_cases c : i = j
  · subst c; simp [h]
  · simp [c]
section
variable {n : Nat} {c : Nat → Nat → Nat}
/-- the greatest cost of what comes, place by place, from a set on -/
def mxF (c : Nat → Nat → Nat) : Nat → List Nat → Nat
  | _, [] => 0
  | x, i :: l => max (c (x ||| 2 ^ i) i) (mxF c (x ||| 2 ^ i) l)
def ors : Nat → List Nat → Nat
  | x, [] => x
  | x, i :: l => ors (x ||| 2 ^ i) l
/-- what comes on: places not yet in it, each once -/
def Goes (n : Nat) : Nat → List Nat → Prop
  | _, [] => True
  | x, i :: l => i < n ∧ x.testBit i = false ∧ Goes n (x ||| 2 ^ i) l
theorem or_lt {x i : Nat} (hx : x < 2 ^ n) (hi : i < n) : x ||| 2 ^ i < 2 ^ n := Nat.or_lt_two_pow hx (Nat.pow_lt_pow_right (by decide) hi)
/-- no order is below the table -/
theorem tab_le : ∀ {l : List Nat} {x : Nat}, x < 2 ^ n → Goes n x l → tab n c (ors x l) ≤ max (tab n c x) (mxF c x l)
  | [], x, _, _ => by simp [ors, mxF]
  | i :: l, x, hx, ⟨hi, hb, g⟩ => by
    have ih := tab_le (or_lt hx hi) g
    obtain ⟨e1, e2⟩ := or_sub hb
    have pos : 0 < x ||| 2 ^ i := by
      have := pow_le_bit e2
      have : 0 < 2 ^ i := Nat.pow_pos (by decide)
      omega
    have st : tab n c (x ||| 2 ^ i) ≤ max (tab n c x) (c (x ||| 2 ^ i) i) := by
      rw [tab_step pos]
      refine minN_le (List.mem_map.mpr ⟨i, mem_bitsL.mpr ⟨hi, e2⟩, ?_⟩)
      rw [e1]
    rw [ors, mxF]
    omega
/-- a place that may have come last -/
theorem tab_last {x : Nat} (h : 0 < x) (hx : x < 2 ^ n) : ∃ i, i ∈ bitsL n x ∧ max (tab n c (x - 2 ^ i)) (c x i) = tab n c x := by
  have m := minN_mem (l := (bitsL n x).map fun i => max (tab n c (x - 2 ^ i)) (c x i)) (by simp; exact bitsL_ne h hx)
  rw [← tab_step h] at m
  exact List.mem_map.mp m
/-! the law's own: what is left goes on -/
def missL (n x : Nat) : List Nat := (List.range n).filter fun i => !x.testBit i
theorem mem_miss {x i : Nat} : i ∈ missL n x ↔ i < n ∧ x.testBit i = false := by
  unfold missL
  rw [List.mem_filter, List.mem_range]
  simp
def wv (n : Nat) (h : Nat → Nat) : Nat → Nat → Nat
  | 0, x => h x
  | f + 1, x => max (h x) (minN ((missL n x).map fun i => wv n h f (x ||| 2 ^ i)))
theorem miss_next {x i : Nat} (hi : i ∈ missL n x) : (missL n (x ||| 2 ^ i)).length + 1 = (missL n x).length := by
  obtain ⟨h1, h2⟩ := mem_miss.mp hi
  have nd : (missL n x).Nodup := List.Nodup.sublist List.filter_sublist List.nodup_range
  have e : missL n (x ||| 2 ^ i) = (missL n x).filter fun j => !decide (j = i) := by
    unfold missL
    rw [List.filter_filter]
    refine List.filter_congr fun j _ => ?_
    rw [Nat.testBit_or, Nat.testBit_two_pow]
    by_cases c : j = i
    · subst c; simp
    · have : ¬ i = j := fun e => c e.symm
      simp [c, this]
  rw [e]
  clear e
  generalize missL n x = l at hi nd
  induction l with
  | nil => cases hi
  | cons a l ih =>
    rw [List.nodup_cons] at nd
    by_cases c : a = i
    · subst c
      have e : (l.filter fun j => !decide (j = a)) = l := List.filter_eq_self.mpr fun q hq => by
        have : ¬ q = a := fun e => nd.1 (e ▸ hq)
        simp [this]
      rw [List.filter_cons_of_neg (by simp), e, List.length_cons]
    · have hm : i ∈ l := by
        rcases List.mem_cons.mp hi with rfl | h
        · exact absurd rfl c
        · exact h
      rw [List.filter_cons_of_pos (by simp [c]), List.length_cons, List.length_cons, ih hm nd.2]
theorem goes_miss : ∀ {l : List Nat} {x : Nat}, Goes n x l → l.length ≤ (missL n x).length
  | [], _, _ => Nat.zero_le _
  | i :: l, x, ⟨hi, hb, g⟩ => by
    have := miss_next (mem_miss.mpr ⟨hi, hb⟩)
    have := goes_miss g
    rw [List.length_cons]
    omega
/-- no order that goes to the end is below what goes on -/
theorem wv_le {h : Nat → Nat} : ∀ {l : List Nat} {x : Nat}, Goes n x l → l.length = (missL n x).length → wv n h l.length x ≤ max (h x) (mxF (fun y _ => h y) x l)
  | [], x, _, _ => by
    rw [List.length_nil, wv]
    omega
  | i :: l, x, ⟨hi, hb, g⟩, e => by
    have mi := mem_miss.mpr ⟨hi, hb⟩
    have mn := miss_next mi
    rw [List.length_cons] at e
    have ih := wv_le (h := h) g (by omega)
    have le : minN ((missL n x).map fun i => wv n h l.length (x ||| 2 ^ i)) ≤ wv n h l.length (x ||| 2 ^ i) := minN_le (List.mem_map.mpr ⟨i, mi, rfl⟩)
    rw [List.length_cons, wv, mxF]
    omega
/-- an order that has it -/
theorem wv_ex {h : Nat → Nat} : ∀ {f x : Nat}, f = (missL n x).length → ∃ l, Goes n x l ∧ l.length = f ∧ max (h x) (mxF (fun y _ => h y) x l) ≤ wv n h f x
  | 0, x, e => ⟨[], trivial, rfl, by simp [mxF, wv]⟩
  | f + 1, x, e => by
    have ne : missL n x ≠ [] := fun q => by rw [q] at e; cases e
    have m := minN_mem (l := (missL n x).map fun i => wv n h f (x ||| 2 ^ i)) (by simp; exact ne)
    obtain ⟨i, hi, ei⟩ := List.mem_map.mp m
    have mn := miss_next hi
    obtain ⟨l, g, hl, le⟩ := wv_ex (h := h) (f := f) (x := x ||| 2 ^ i) (by omega)
    obtain ⟨h1, h2⟩ := mem_miss.mp hi
    refine ⟨i :: l, ⟨h1, h2, g⟩, by simp [hl], ?_⟩
    rw [wv, mxF, ← ei]
    omega
theorem tb_ors : ∀ {l : List Nat} {x j : Nat}, (ors x l).testBit j = (x.testBit j || decide (j ∈ l))
  | [], x, j => by simp [ors]
  | i :: l, x, j => by
    rw [ors, tb_ors, Nat.testBit_or, Nat.testBit_two_pow]
    by_cases c : i = j
    · subst c; simp
    · have : ¬ j = i := fun e => c e.symm
      simp [c, this]
theorem goes_of {l : List Nat} : ∀ {x : Nat}, l.Nodup → (∀ i ∈ l, i < n ∧ x.testBit i = false) → Goes n x l := by
  induction l with
  | nil => exact fun _ _ => trivial
  | cons i l ih =>
    intro x nd h
    rw [List.nodup_cons] at nd
    refine ⟨(h i (by simp)).1, (h i (by simp)).2, ih nd.2 fun j hj => ⟨(h j (by simp [hj])).1, ?_⟩⟩
    rw [Nat.testBit_or, Nat.testBit_two_pow, (h j (by simp [hj])).2]
    have : ¬ i = j := fun e => nd.1 (e ▸ hj)
    simp [this]
theorem goes_lt : ∀ {l : List Nat} {x : Nat}, Goes n x l → x < 2 ^ n → ors x l < 2 ^ n
  | [], _, _, h => h
  | i :: l, x, ⟨a, _, g⟩, h => goes_lt (l := l) (x := x ||| 2 ^ i) g (or_lt h a)
theorem goes_nodup : ∀ {l : List Nat} {x : Nat}, Goes n x l → l.Nodup ∧ ∀ i ∈ l, i < n ∧ x.testBit i = false
  | [], _, _ => ⟨List.nodup_nil, fun _ h => nomatch h⟩
  | i :: l, x, ⟨a, b, g⟩ => by
    obtain ⟨h1, h2⟩ := goes_nodup g
    have h3 : ∀ j ∈ l, i ≠ j ∧ x.testBit j = false := fun j hj => by
      have := (h2 j hj).2
      rw [Nat.testBit_or, Nat.testBit_two_pow, Bool.or_eq_false_iff] at this
      exact ⟨by simpa using this.2, this.1⟩
    refine ⟨List.nodup_cons.mpr ⟨fun m => (h3 i m).1 rfl, h1⟩, fun j hj => ?_⟩
    rcases List.mem_cons.mp hj with rfl | hj
    · exact ⟨a, b⟩
    · exact ⟨(h2 j hj).1, (h3 j hj).2⟩
theorem miss_zero : missL n 0 = List.range n := List.filter_eq_self.mpr fun i _ => by simp
theorem ors_full {l : List Nat} (g : Goes n 0 l) (hl : l.length = n) : ors 0 l = 2 ^ n - 1 := by
  obtain ⟨nd, h⟩ := goes_nodup g
  refine tb_ext fun j => ?_
  rw [tb_ors, Nat.testBit_two_pow_sub_one]
  simp only [Nat.zero_testBit, Bool.false_or]
  rw [Bool.eq_iff_iff, decide_eq_true_iff, decide_eq_true_iff]
  constructor
  · exact fun m => (h j m).1
  · intro hj
    refine Classical.byContradiction fun m => ?_
    have := L2.nat_nodup_len (j :: l) (List.range n) (List.nodup_cons.mpr ⟨m, nd⟩) fun i hi => by
      rcases List.mem_cons.mp hi with rfl | hi
      · exact List.mem_range.mpr hj
      · exact List.mem_range.mpr (h i hi).1
    rw [List.length_cons, List.length_range, hl] at this
    omega
/-- the law's own least number is the table's last -/
theorem least_same {h : Nat → Nat} (h0 : h 0 = 0) {ord : List Nat} (g : Goes n 0 ord) (ho : ord.length = n) (ho2 : mxF (fun y _ => h y) 0 ord = tab n (fun y _ => h y) (2 ^ n - 1)) : wv n h n 0 = tab n (fun y _ => h y) (2 ^ n - 1) := by
  have m0 : (missL n 0).length = n := by rw [miss_zero, List.length_range]
  have a := wv_le (h := h) g (by rw [ho, m0])
  rw [ho, h0, ho2] at a
  obtain ⟨l, gl, ll, le⟩ := wv_ex (n := n) (h := h) (f := n) (x := 0) m0.symm
  have b := tab_le (c := fun y _ => h y) (Nat.pow_pos (by decide)) gl
  rw [ors_full gl ll, tab_zero] at b
  omega
end
end Z
set_option Elab.async false
set_option linter.all false
set_option maxRecDepth 100000
set_option maxHeartbeats 1000000
/-! The least number of all orders, and an order that has it. -/
namespace Z
open PySem PySem.Spec PyProof.Rows L2 MV
section
variable {W : Web} {n : Nat} {c : Nat → Nat → Nat} {nm : Str} {m : Fn} {FT : List (Str × Fn)}
theorem tabs_last (k : Nat) : ∃ L, tabs n c k = L ++ [tab n c k] := by
  cases k with
  | zero => exact ⟨[], rfl⟩
  | succ k =>
    refine ⟨tabs n c k, ?_⟩
    have e1 := tabs_at (n := n) (c := c) (k := k + 1) (j := k + 1) (Nat.le_refl _)
    rw [tabs] at e1 ⊢
    rw [List.getElem?_append_right (by rw [tabs_len]; omega), tabs_len, Nat.sub_self] at e1
    rw [Option.some.inj e1]
theorem len_full {l : List Nat} (g : Goes n 0 l) (h : ors 0 l = 2 ^ n - 1) : l.length = n := by
  obtain ⟨nd, hm⟩ := goes_nodup g
  have a := L2.nat_nodup_len l (List.range n) nd fun i hi => List.mem_range.mpr (hm i hi).1
  have b := L2.nat_nodup_len (List.range n) l List.nodup_range fun i hi => by
    have : (ors 0 l).testBit i = true := by
      rw [h, Nat.testBit_two_pow_sub_one]
      exact decide_eq_true (List.mem_range.mp hi)
    rw [tb_ors] at this
    simpa using this
  rw [List.length_range] at a b
  omega
end
end Z
set_option Elab.async false
set_option linter.all false
set_option maxRecDepth 100000
set_option maxHeartbeats 1000000
/-! The cost by width. -/
namespace Z
open PySem PySem.Spec PyProof.Rows L2 MV
section
variable {n : Nat} {adj : Nat → Nat}
theorem around_eq (ha : ∀ i, i < n → adj i < 2 ^ n) {x : Nat} (hx : x < 2 ^ n) (hn : n ≤ 20) (S : Sto) : m_around [.d (.list (dZ (TL n adj))), .d (.int (x : Nat))] S = .ok (.d (.int ((besM n adj x : Nat) : Int))) S := by
  have hz := hzZ
  suffices z : wp (m_around [.d (.list (dZ (TL n adj))), .d (.int (x : Nat))] S) fun v S' => v = .d (.int ((besM n adj x : Nat) : Int)) ∧ S' = S by
    obtain ⟨v, S', e, rfl, rfl⟩ := z.ex
    exact e
  refine wp_fn rfl ?_
  simp only [List.map_cons, List.map_nil, List.replicate, List.cons_append, List.nil_append]
  refine wp_seqN fun K kn => ?_
  simp only [e_sSet, e_K, bind_ok, th_d, wp_ok, List.set_cons_zero, List.set_cons_succ]
  refine kn _ _ ?_
  clear kn K
  refine wp_seqN fun K kn => ?_
  refine wp_forK (fun (pre : List Nat) ρ T => T = S ∧ ∃ o3, ρ = [some (.d (.list (dZ (TL n adj)))), some (.d (.int (x : Nat))), some (.d (.int ((maskOf n (fun j => pre.any fun i => (adj i).testBit j) : Nat) : Int))), o3]) (bitsL n x) (fun i => .int (i : Nat)) (s := ⟨dZ (bitsL n x), []⟩) (S1 := S) (by
    simp only [e_iSeq, e_Call, e_aCons, e_aNil, e_V, List.getElem?_cons_zero, List.getElem?_cons_succ, bind_ok, th_d, members_eq hx hn, th_f, data_lst, seq_l]) rfl (fun _ _ _ _ => gok_nil) ⟨rfl, none, by simp [show maskOf n (fun _ => false) = 0 from mask_zero.mpr fun _ _ => rfl]⟩ ?_ ?_
  · rintro pre i post ρ T e ⟨rfl, o3, rfl⟩
    have hi : i < n := (mem_bitsL.mp (show i ∈ bitsL n x by rw [e]; simp)).1
    refine ⟨_, rfl, fun K1 k1 kr1 => ?_⟩
    have q : maskOf n (fun j => pre.any fun i => (adj i).testBit j) ||| adj i = maskOf n (fun j => (pre ++ [i]).any fun i => (adj i).testBit j) := by
      apply tb_ext
      intro j
      rw [Nat.testBit_or, tb_mask, tb_mask, List.any_append]
      by_cases c : j < n
      · simp [c]
      · rw [Nat.testBit_lt_two_pow (Nat.lt_of_lt_of_le (ha i hi) (Nat.pow_le_pow_right (by decide) (by omega)))]
        simp [c]
    simp only [List.set_cons_zero, List.set_cons_succ, e_sSet, e_2, e_V, List.getElem?_cons_zero, List.getElem?_cons_succ, bind_ok, th_d, o_ixL, TL_at hi, or_nn, q, wp_ok]
    exact k1 _ _ ⟨rfl, _, rfl⟩
  · rintro ρ T ⟨rfl, o3, rfl⟩
    refine kn _ _ ?_
    simp only [e_sRt, e_V, List.getElem?_cons_zero, List.getElem?_cons_succ, bind_ok, th_d, wp_ok]
    refine wp_out_d ?_
    exact ⟨rfl, by simp⟩
/-- how many out of a set are come to from one of it -/
noncomputable def wC (n : Nat) (adj : Nat → Nat) (x i : Nat) : Nat := (bitsL n (anot (besM n adj (comeM n adj (2 ^ i) x)) x)).length
theorem width_cost_eq (ha : ∀ i, i < n → adj i < 2 ^ n) {x i : Nat} (hx : x < 2 ^ n) (hn : n ≤ 20) (hi : i < n) (S : Sto) : m_width_cost [.d (.list (dZ (TL n adj))), .d (.int (x : Nat)), .d (.int (i : Nat))] S = .ok (.d (.int ((wC n adj x i : Nat) : Int))) S := by
  have hz := hzZ
  have pi : 2 ^ i < 2 ^ n := Nat.pow_lt_pow_right (by decide) hi
  suffices z : wp (m_width_cost [.d (.list (dZ (TL n adj))), .d (.int (x : Nat)), .d (.int (i : Nat))] S) fun v S' => v = .d (.int ((wC n adj x i : Nat) : Int)) ∧ S' = S by
    obtain ⟨v, S', e, rfl, rfl⟩ := z.ex
    exact e
  refine wp_fn rfl ?_
  simp only [List.map_cons, List.map_nil, List.replicate, List.cons_append, List.nil_append]
  refine wp_seqN fun K kn => ?_
  simp only [e_sSet, e_2, e_V, e_K, List.getElem?_cons_zero, List.getElem?_cons_succ, bind_ok, th_d, shlZ i (by omega), wp_ok, List.set_cons_zero, List.set_cons_succ]
  refine kn _ _ ?_
  clear kn K
  refine wp_seqN fun K kn => ?_
  simp only [e_sSet, e_K, bind_ok, th_d, wp_ok, List.set_cons_zero, List.set_cons_succ]
  refine kn _ _ ?_
  clear kn K
  refine wp_seqN fun K kn => ?_
  refine wp_whileK (fun m ρ U => ∃ f w, f < 2 ^ n ∧ w < 2 ^ n ∧ f ≠ 0 ∧ m = 2 * (n - (bitsL n f).length) + (if f = w then 0 else 1) ∧ f.testBit i = true ∧ (∀ j, w.testBit j = true → f.testBit j = true) ∧ (∀ j, f.testBit j = true → RC adj x (2 ^ i) j) ∧
      (∀ a j, w.testBit a = true → (adj a).testBit j = true → x.testBit j = true → f.testBit j = true) ∧
      ρ = [some (.d (.list (dZ (TL n adj)))), some (.d (.int (x : Nat))), some (.d (.int (i : Nat))), some (.d (.int (f : Nat))), some (.d (.int (w : Nat)))] ∧ U = S) ?_ 1000000 _ _ _ (by
        show 2 * (n - (bitsL n (2 ^ i)).length) + (if 2 ^ i = 0 then 0 else 1) < 1000000
        split <;> omega) ⟨2 ^ i, 0, pi, Nat.pow_pos (by decide), by have := Nat.pow_pos (n := i) (show 0 < 2 by decide); omega, rfl, by rw [Nat.testBit_two_pow]; simp, fun j h => by simp at h, fun j h => .base h, fun a j h => by simp at h, rfl, rfl⟩
  rintro m ρ U ⟨f, w, hf, hw, f0, rfl, fi, a2, a3, a4, rfl, rfl⟩ K0 kt kf
  have ne : gNe (.d (.int (f : Nat))) (.d (.int (w : Nat))) U = .ok (.d (.bool (!decide (f = w)))) U := by
    rw [o_neI]
    congr 3
    rw [Bool.eq_iff_iff]
    simp
    omega
  by_cases c : f = w
  · subst c
    simp only [e_tst, e_2, e_V, List.getElem?_cons_zero, List.getElem?_cons_succ, bind_ok, th_d, ne, decide_true, Bool.not_true, wp_ok]
    refine kf _ (kn _ _ ?_)
    have e : f = comeM n adj (2 ^ i) x := by
      apply tb_ext
      intro j
      rw [Bool.eq_iff_iff, tb_come hx pi]
      refine ⟨a3 j, fun h => ?_⟩
      induction h with
      | base h =>
        rw [Nat.testBit_two_pow] at h
        have : i = _ := of_decide_eq_true h
        exact this ▸ fi
      | step _ h1 h2 ih => exact a4 _ _ ih h1 h2
    have bl : besM n adj f < 2 ^ n := mask_lt _ _
    have al : anot (besM n adj f) x < 2 ^ n := Nat.lt_of_le_of_lt (Nat.sub_le _ _) bl
    have gl := g_lenL (ds := dZ (bitsL n (anot (besM n adj f) x))) (S := U)
    rw [dZ_len] at gl
    simp only [e_sRt, e_Call, e_aCons, e_aNil, e_V, List.getElem?_cons_zero, List.getElem?_cons_succ, bind_ok, th_d, around_eq ha hf hn, outside_eq, members_eq al hn, th_f, data_lst, gl, wp_ok]
    refine wp_out_d ?_
    refine ⟨?_, by simp⟩
    unfold wC
    rw [← e]
  · simp only [e_tst, e_2, e_V, List.getElem?_cons_zero, List.getElem?_cons_succ, bind_ok, th_d, ne, decide_eq_false c, Bool.not_false, wp_ok]
    refine kt _ fun K2 k2 _ => ?_
    refine wp_seqN fun K3 k3 => ?_
    simp only [e_sSet, e_V, List.getElem?_cons_zero, List.getElem?_cons_succ, bind_ok, th_d, wp_ok, List.set_cons_zero, List.set_cons_succ]
    refine k3 _ _ ?_
    have hb : besM n adj f < 2 ^ n := mask_lt _ _
    have b := @tb_bes n adj f
    simp only [e_sSet, e_2, e_Call, e_aCons, e_aNil, e_V, List.getElem?_cons_zero, List.getElem?_cons_succ, bind_ok, th_d, around_eq ha hf hn, an_nn, or_nn, wp_ok, List.set_cons_zero, List.set_cons_succ]
    have tw : ∀ j, (besM n adj f &&& x).testBit j = true ↔ (∃ i, f.testBit i = true ∧ (adj i).testBit j = true) ∧ x.testBit j = true := fun j => by
      rw [Nat.testBit_and, Bool.and_eq_true, b ha hf]
    have hw' : besM n adj f &&& x < 2 ^ n := Nat.and_lt_two_pow _ hx
    generalize besM n adj f &&& x = w' at tw hw'
    refine k2 (2 * (n - (bitsL n (f ||| w')).length) + (if f ||| w' = f then 0 else 1)) _ _ ?_ ⟨f ||| w', f, Nat.or_lt_two_pow hf hw', hf, fun e => f0 (by
      refine tb_ext fun j => ?_
      have := congrArg (fun z => z.testBit j) e
      simp only [Nat.testBit_or, Nat.zero_testBit, Bool.or_eq_false_iff] at this
      rw [this.1, Nat.zero_testBit]), rfl, by rw [Nat.testBit_or, fi]; rfl, fun j h => by rw [Nat.testBit_or, h]; rfl, fun j h => ?_, fun a j h1 h2 h3 => ?_, rfl, rfl⟩
    · rw [if_neg c]
      by_cases c2 : f ||| w' = f
      · rw [if_pos c2, c2]
        omega
      · rw [if_neg c2]
        have e3 : f ||| w' = f ||| anot w' f := tb_ext fun j => by
          rw [Nat.testBit_or, Nat.testBit_or, tb_anot]
          cases f.testBit j <;> simp
        have nz : anot w' f ≠ 0 := fun z => c2 (by rw [e3, z, Nat.or_zero])
        have lw : anot w' f < 2 ^ n := Nat.lt_of_le_of_lt (Nat.sub_le _ _) hw'
        have := bits_more (f := f) lw nz fun j hj => by
          rw [tb_anot, Bool.and_eq_true] at hj
          simpa using hj.2
        rw [← e3] at this
        have := bitsL_le n (f ||| w')
        omega
    · rw [Nat.testBit_or, Bool.or_eq_true] at h
      rcases h with h | h
      · exact a3 j h
      · obtain ⟨⟨q, h1, h2⟩, h3⟩ := (tw j).mp h
        exact .step (a3 q h1) h2 h3
    · rw [Nat.testBit_or, (tw j).mpr ⟨⟨a, h1, h2⟩, h3⟩]
      simp
end
/-! what is tied through what has gone -/
section
variable {n : Nat} {adj : Nat → Nat}
/-- j is tied to i, or through places of s -/
def ET (adj : Nat → Nat) (s i j : Nat) : Prop := s.testBit j = false ∧ j ≠ i ∧ ∃ k, RC adj s (2 ^ i) k ∧ (adj k).testBit j = true
theorem RC.self {s i : Nat} : RC adj s (2 ^ i) i := .base (by rw [Nat.testBit_two_pow]; simp)
theorem RC.trans {s i u w : Nat} (h : RC adj s (2 ^ i) u) (k : RC adj s (2 ^ u) w) : RC adj s (2 ^ i) w := by
  induction k with
  | base h1 =>
    rw [Nat.testBit_two_pow] at h1
    have : u = _ := of_decide_eq_true h1
    exact this ▸ h
  | step _ h1 h2 ih => exact .step ih h1 h2
theorem RC.mono {s t i u : Nat} (hs : ∀ j, s.testBit j = true → t.testBit j = true) (h : RC adj s (2 ^ i) u) : RC adj t (2 ^ i) u := by
  induction h with
  | base h1 => exact .base h1
  | step _ h1 h2 ih => exact .step ih h1 (hs _ h2)
theorem ET.symm (sy : ∀ a b, a < n → (adj a).testBit b = true → (adj b).testBit a = true) {s i j : Nat} (hs : s < 2 ^ n) (i1 : i < n) (hi : s.testBit i = false) (h : ET adj s i j) : ET adj s j i := by
  obtain ⟨_, ne, k, hk, hj⟩ := h
  refine ⟨hi, Ne.symm ne, ?_⟩
  have pi : 2 ^ i < 2 ^ n := Nat.pow_lt_pow_right (by decide) i1
  have key : ∀ {k : Nat}, RC adj s (2 ^ i) k → ∀ j, (adj k).testBit j = true → ∃ u, RC adj s (2 ^ j) u ∧ (adj u).testBit i = true := by
    intro k hk
    induction hk with
    | base h1 =>
      intro j hj
      rw [Nat.testBit_two_pow] at h1
      have : i = _ := of_decide_eq_true h1
      subst this
      exact ⟨j, .self, sy _ _ i1 hj⟩
    | step h0 h1 h2 ih =>
      intro j hj
      obtain ⟨u, a, b⟩ := ih _ h1
      exact ⟨u, (RC.step .self (sy _ _ (bit_lt hs h2) hj) h2).trans a, b⟩
  exact key hk j hj
theorem or_tb {s v j : Nat} : (s ||| 2 ^ v).testBit j = true ↔ s.testBit j = true ∨ v = j := by
  rw [Nat.testBit_or, Nat.testBit_two_pow, Bool.or_eq_true, decide_eq_true_iff]
theorem or_tbf {s v j : Nat} : (s ||| 2 ^ v).testBit j = false ↔ s.testBit j = false ∧ v ≠ j := by
  rw [Nat.testBit_or, Nat.testBit_two_pow, Bool.or_eq_false_iff, decide_eq_false_iff_not]
/-- who is tied when one more has gone -/
theorem ET_next {s v k j : Nat} (hv : s.testBit v = false) (hk : k ≠ v) (hj : (s ||| 2 ^ v).testBit j = false) : ET adj (s ||| 2 ^ v) k j ↔ j ≠ k ∧ (ET adj s k j ∨ (ET adj s k v ∧ ET adj s v j)) := by
  obtain ⟨j1, j2⟩ := or_tbf.mp hj
  have up : ∀ q, s.testBit q = true → (s ||| 2 ^ v).testBit q = true := fun q h => or_tb.mpr (.inl h)
  constructor
  · rintro ⟨_, ne, u, hu, ha⟩
    refine ⟨ne, ?_⟩
    have key : ∀ {u : Nat}, RC adj (s ||| 2 ^ v) (2 ^ k) u → RC adj s (2 ^ k) u ∨ (ET adj s k v ∧ RC adj s (2 ^ v) u) := by
      intro u hu
      induction hu with
      | base h => exact .inl (.base h)
      | step _ h1 h2 ih =>
        rcases or_tb.mp h2 with h2 | rfl
        · rcases ih with ih | ⟨e, ih⟩
          · exact .inl (.step ih h1 h2)
          · exact .inr ⟨e, .step ih h1 h2⟩
        · rcases ih with ih | ⟨e, ih⟩
          · exact .inr ⟨⟨hv, Ne.symm hk, _, ih, h1⟩, .self⟩
          · exact .inr ⟨e, .self⟩
    rcases key hu with q | ⟨e, q⟩
    · exact .inl ⟨j1, ne, u, q, ha⟩
    · exact .inr ⟨e, j1, Ne.symm j2, u, q, ha⟩
  · rintro ⟨ne, ⟨_, _, u, hu, ha⟩ | ⟨⟨_, _, u, hu, ha⟩, ⟨_, _, w, hw, hb⟩⟩⟩
    · exact ⟨hj, ne, u, hu.mono up, ha⟩
    · exact ⟨hj, ne, w, (RC.step (hu.mono up) ha (or_tb.mpr (.inr rfl))).trans (hw.mono up), hb⟩
/-- the cost by width is how many are tied through what has gone -/
theorem wC_ET (ha : ∀ i, i < n → adj i < 2 ^ n) {s i : Nat} (hs : s < 2 ^ n) (hi : i < n) (si : s.testBit i = false) {m : Nat} (hm : ∀ j, j < n → (m.testBit j = true ↔ ET adj s i j)) : wC n adj (s ||| 2 ^ i) i = (bitsL n m).length := by
  have pi : 2 ^ i < 2 ^ n := Nat.pow_lt_pow_right (by decide) hi
  have hx := or_lt hs hi
  have cm : comeM n adj (2 ^ i) (s ||| 2 ^ i) < 2 ^ n := mask_lt _ _
  unfold wC
  have e : bitsL n (anot (besM n adj (comeM n adj (2 ^ i) (s ||| 2 ^ i))) (s ||| 2 ^ i)) = bitsL n m := by
    unfold bitsL
    refine List.filter_congr fun j hj => ?_
    have jn := List.mem_range.mp hj
    rw [tb_anot, Bool.eq_iff_iff, Bool.and_eq_true, tb_bes ha cm, hm j jn]
    simp only [tb_come hx pi, Bool.not_eq_true']
    have same : ∀ k, RC adj (s ||| 2 ^ i) (2 ^ i) k ↔ RC adj s (2 ^ i) k := fun k => by
      constructor
      · intro h
        induction h with
        | base h => exact .base h
        | step _ h1 h2 ih =>
          rcases or_tb.mp h2 with h2 | rfl
          · exact .step ih h1 h2
          · exact .self
      · exact fun h => h.mono fun q h => or_tb.mpr (.inl h)
    constructor
    · rintro ⟨⟨k, h1, h2⟩, h3⟩
      obtain ⟨q1, q2⟩ := or_tbf.mp h3
      exact ⟨q1, Ne.symm q2, k, (same k).mp h1, h2⟩
    · rintro ⟨q1, q2, k, h1, h2⟩
      exact ⟨⟨k, (same k).mpr h1, h2⟩, or_tbf.mpr ⟨q1, Ne.symm q2⟩⟩
  rw [e]
end
end Z
set_option Elab.async false
set_option linter.all false
set_option maxRecDepth 100000
set_option maxHeartbeats 1000000
/-! k26: the law's own near, masks, what goes on; an order turned. -/
namespace Z
open PySem PySem.Spec PyProof.Rows L2 MV
def nrT (W : Web) (p : Int) : List Int := (W.2.filter fun t => decide (p ∈ [t.1, t.2])).map fun t => t.1 + t.2 - p
theorem mem_nrT {W : Web} {p x : Int} : x ∈ nrT W p ↔ x ∈ nearL W p := by
  rw [mem_nearL]
  unfold nrT nbr
  simp only [List.mem_map, List.mem_filter, decide_eq_true_iff, List.mem_cons, List.not_mem_nil, or_false]
  constructor
  · rintro ⟨t, ⟨ht, h⟩, rfl⟩
    rcases h with h | h
    · exact .inl (by rw [show (p, t.1 + t.2 - p) = t from Prod.ext h (by dsimp only; omega)]; exact ht)
    · exact .inr (by rw [show (t.1 + t.2 - p, p) = t from Prod.ext (by dsimp only; omega) h]; exact ht)
  · rintro (h | h)
    · exact ⟨_, ⟨h, .inl rfl⟩, by dsimp only; omega⟩
    · exact ⟨_, ⟨h, .inr rfl⟩, by dsimp only; omega⟩
theorem nrT_nodup {n : Nat} {W : Web} (h : ZW n W) (p : Int) : (nrT W p).Nodup := by
  unfold nrT
  rw [List.Nodup, List.pairwise_map]
  have nd : (W.2.filter fun t => decide (p ∈ [t.1, t.2])).Nodup := List.Nodup.sublist List.filter_sublist h.nd
  refine nd.imp_of_mem fun {a b} ha hb ne e => ne ?_
  have qa := List.mem_filter.mp ha
  have qb := List.mem_filter.mp hb
  have la := (h.lt a qa.1).1
  have lb := (h.lt b qb.1).1
  have ma : p = a.1 ∨ p = a.2 := by simpa using qa.2
  have mb : p = b.1 ∨ p = b.2 := by simpa using qb.2
  rcases ma with ma | ma <;> rcases mb with mb | mb <;> exact Prod.ext (by omega) (by omega)
theorem nrT_len (W : Web) (p : Int) : (nrT W p).length ≤ W.2.length := by
  unfold nrT
  rw [List.length_map]
  exact List.length_filter_le _ _
theorem l_near_eq {n : Nat} {W : Web} (h : ZW n W) (p : Int) (S : Sto) : m_l_near [.d (pW W), .d (.int p)] S = .ok (.f (.lst (dI (nrT W p)))) S := by
  have hz := hzZ
  have tl := h.tl
  suffices z : wp (m_l_near [.d (pW W), .d (.int p)] S) fun v S' => v = .f (.lst (dI (nrT W p))) ∧ S' = S by
    obtain ⟨v, S', e, rfl, rfl⟩ := z.ex
    exact e
  refine wp_fn rfl ?_
  simp only [y_l_near, List.map_cons, List.map_nil, List.replicate, List.cons_append, List.nil_append]
  rw [e_sRt, comp_pure W.2 pP (fun t => decide (p ∈ [t.1, t.2])) (fun t => .int (t.1 + t.2 - p)) (s := ⟨dP W.2, []⟩) (by simp) (by simp) gok_nil (by omega) (fun t ht => ⟨_, by simp [wipeE, pP]; rfl, by
    have i2 : gIn (.d (.int p)) (.d (.tuple [.int t.1, .int t.2])) S = .ok (.d (.bool (decide (p ∈ [t.1, t.2])))) S := encInt.inT p [t.1, t.2]
    simp only [e_tst, e_2, e_Tup, e_aCons, e_aNil, e_V, List.getElem?_cons_zero, List.getElem?_cons_succ, bind_ok, th_d, datas_d, datas_nil, Option.map_some, List.length_cons, List.length_nil, Nat.reduceAdd, Nat.reduceLeDiff, if_true, i2], fun _ => ⟨.d (.int (t.1 + t.2 - p)), by
    simp only [e_2, e_V, List.getElem?_cons_zero, List.getElem?_cons_succ, bind_ok, th_d, o_add, o_sub], rfl⟩⟩)]
  simp only [bind_ok, wp_ok]
  refine wp_out_f ?_
  refine ⟨?_, by simp⟩
  unfold nrT
  show _ = Val.f (Cell.lst (List.map PyData.int (List.map _ _)))
  rw [List.map_map]
  rfl
theorem sum_msk {P : List Int} (nd : P.Nodup) : ∀ (xs pre : List Int), (∀ x ∈ xs, x ∈ P ∧ x ∉ pre) → xs.Nodup → ((mskP P pre : Nat) : Int) + (xs.map fun x => ((2 ^ P.idxOf x : Nat) : Int)).sum = ((mskP P (pre ++ xs) : Nat) : Int)
  | [], pre, _, _ => by simp
  | x :: xs, pre, h, nx => by
    rw [List.nodup_cons] at nx
    have hx := h x (by simp)
    have ih := sum_msk nd xs (pre ++ [x]) (fun y hy => ⟨(h y (by simp [hy])).1, fun m => by
      rcases List.mem_append.mp m with m | m
      · exact (h y (by simp [hy])).2 m
      · rw [List.mem_singleton.mp m] at hy; exact nx.1 hy⟩) nx.2
    have il := pl_idx hx.1
    have tb : (mskP P pre).testBit (P.idxOf x) = false := by
      unfold mskP
      rw [tb_mask, il.2]
      simp [hx.2]
    have os := (or_sub tb).1
    have ob := (or_sub tb).2
    have le := pow_le_bit ob
    rw [mskP_add nd hx.1] at os le
    rw [List.append_assoc, List.singleton_append] at ih
    rw [List.map_cons, List.sum_cons]
    omega
theorem l_masks_eq {n : Nat} {W : Web} (h : ZW n W) (hn : n ≤ 9) (S : Sto) : m_l_masks [.d (pW W)] S = .ok (.f (.lst (dZ (TL n (adjM W.1 W.2))))) S := by
  have hz := hzZ
  have tl := h.tl
  have nd : W.1.Nodup := h.rp.nodup
  suffices z : wp (m_l_masks [.d (pW W)] S) fun v S' => v = .f (.lst (dZ (TL n (adjM W.1 W.2)))) ∧ S' = S by
    obtain ⟨v, S', e, rfl, rfl⟩ := z.ex
    exact e
  refine wp_fn rfl ?_
  simp only [List.map_cons, List.map_nil, List.replicate, List.cons_append, List.nil_append]
  refine wp_seqN fun K kn => ?_
  simp only [e_sCell, e_Lst, e_aNil, bind_ok, datas_nil, List.length_nil, Nat.zero_le, if_true, wp_ok, List.set_cons_zero, List.set_cons_succ]
  refine kn _ _ ?_
  clear kn K
  refine wp_seqN fun K kn => ?_
  refine wp_forK (fun (pre : List Int) ρ T => ∃ o2, ρ = [some (.d (pW W)), some (.c S.length), o2, none] ∧ T = S ++ [.lst (dZ (pre.map fun p => mskP W.1 (nearL W p)))]) W.1 PyData.int (s := ⟨dI W.1, []⟩) (S1 := S ++ [.lst []]) (by simp) rfl (fun _ _ _ _ => gok_nil) ⟨none, rfl, rfl⟩ ?_ ?_
  · rintro pre p post ρ T e ⟨o2, rfl, rfl⟩
    have pl9 : pre.length ≤ 9 := by
      have := congrArg List.length e
      rw [h.n] at this
      simp at this
      omega
    refine ⟨_, rfl, fun K1 k1 kr1 => ?_⟩
    have hc : (S ++ [Cell.lst (dZ (pre.map fun p => mskP W.1 (nearL W p)))])[S.length]? = some (.lst (dZ (pre.map fun p => mskP W.1 (nearL W p)))) := by simp
    generalize hU : S ++ [Cell.lst (dZ (pre.map fun p => mskP W.1 (nearL W p)))] = U at *
    have nl := nrT_len W p
    have sub : ∀ x ∈ nrT W p, x ∈ W.1 := fun x hx => near_sub h (mem_nrT.mp hx)
    rw [e_sEx, e_Mt]
    simp only [List.set_cons_zero, List.set_cons_succ, e_V, List.getElem?_cons_zero, List.getElem?_cons_succ, bind_ok, th_c, ty_lZ hc, if_true]
    rw [e_aCons, e_Call, e_aCons, comp_map (nrT W p) PyData.int (fun x => .int ((2 ^ W.1.idxOf x : Nat) : Int)) (s := ⟨dI (nrT W p), []⟩) (by
      simp only [e_iSeq, e_Call, e_aCons, e_aNil, e_V, List.getElem?_cons_zero, List.getElem?_cons_succ, bind_ok, th_d, l_near_eq h p, th_f, data_lst, seq_l]) rfl gok_nil (by omega) (fun x hx => ⟨_, rfl, rfl, .d (.int ((2 ^ W.1.idxOf x : Nat) : Int)), by
        have xl := (pl_idx (sub x hx)).1
        simp only [wipeE, List.foldl, List.set_cons_zero, List.set_cons_succ]
        rw [e_2, e_K, bind_ok, e_Mt2Z (ds := dI W.1) (by simp only [e_2, e_V, e_K, List.getElem?_cons_zero, bind_ok, th_d, ix_W0]; rfl)]
        simp only [e_aCons, e_aNil, e_V, List.getElem?_cons_zero, List.getElem?_cons_succ, bind_ok, th_d, idx_Z (sub x hx), shlZ (W.1.idxOf x) (by have := h.n; omega)], rfl⟩)]
    have sm := sum_msk nd (nrT W p) [] (fun x hx => ⟨sub x hx, by simp⟩) (nrT_nodup h p)
    rw [mskP_nil, List.nil_append] at sm
    have me : mskP W.1 (nrT W p) = mskP W.1 (nearL W p) := mask_congr fun j _ => by
      rw [Bool.eq_iff_iff, decide_eq_true_iff, decide_eq_true_iff, mem_nrT]
    rw [me] at sm
    have gs : g1 fSum [.d (.list ((nrT W p).map fun x => PyData.int ((2 ^ W.1.idxOf x : Nat) : Int)))] U = .ok (.d (.int ((mskP W.1 (nearL W p) : Nat) : Int))) U := g1_of (by
      unfold fSum asR
      simp only [th_d, seq_l]
      rw [show ((nrT W p).map fun x => PyData.int ((2 ^ W.1.idxOf x : Nat) : Int)) = dI ((nrT W p).map fun x => ((2 ^ W.1.idxOf x : Nat) : Int)) by show _ = List.map PyData.int _; rw [List.map_map]; rfl, ints_dI, Option.map_some]
      congr 2
      omega)
    have ap := app_c (y := .int ((mskP W.1 (nearL W p) : Nat) : Int)) hc (by simp; omega)
    simp only [bind_ok, th_f, data_lst, e_aNil, gs, th_d, ap, wp_ok]
    refine k1 _ _ ⟨_, rfl, ?_⟩
    rw [← hU]
    simp [dZ]
  · rintro ρ T ⟨o2, rfl, rfl⟩
    refine kn _ _ ?_
    have hc : (S ++ [Cell.lst (dZ (W.1.map fun p => mskP W.1 (nearL W p)))])[S.length]? = some (.lst (dZ (W.1.map fun p => mskP W.1 (nearL W p)))) := by simp
    simp only [e_sRt, e_V, List.getElem?_cons_zero, List.getElem?_cons_succ, bind_ok, wp_ok]
    show wp (out S.length (S ++ [Cell.lst (dZ (W.1.map fun p => mskP W.1 (nearL W p)))]) (.c S.length)) _
    rw [out_c (Nat.lt_irrefl _) hc, wp_ok]
    refine ⟨?_, by simp⟩
    congr 3
    unfold TL
    refine List.ext_getElem (by simp [h.n]) fun i h1 h2 => ?_
    simp only [List.getElem_map, List.getElem_range]
    have hi : i < W.1.length := by simpa using h1
    rw [← adj_near]
    unfold pl
    rw [List.getD_eq_getElem?_getD, List.getElem?_eq_getElem hi]
    rfl
end Z
set_option Elab.async false
set_option linter.all false
set_option maxRecDepth 100000
set_option maxHeartbeats 1000000
/-! k26: the law's own costs. -/
namespace Z
open PySem PySem.Spec PyProof.Rows L2 MV
theorem pop_cZ {S : Sto} {n : Nat} {ds : List PyData} {y : PyData} (h : S[n]? = some (.lst (ds ++ [y]))) : gPop (.c n) [] S = .ok (.d y) (S.set n (.lst ds)) := by
  unfold gPop cellL
  dsimp only
  rw [h]
  simp
theorem rep_Z (y : PyData) (b : Bool) (U : Sto) : gMul (.d (.list [y])) (.d (.int (if b = true then 1 else 0))) U = .ok (.f (.lst (if b = true then [y] else []))) U := by
  have hz := hzZ
  cases b with
  | true =>
    show (if -(2 ^ 63) ≤ (1 : Int) ∧ (1 : Int) < 2 ^ 63 ∧ [y].length * (1 : Int).toNat ≤ sizeLine then Res.ok (Val.f (.lst (List.replicate (1 : Int).toNat [y]).flatten)) U else .no) = _
    rw [if_pos ⟨by decide, by decide, by simp; omega⟩]
    rfl
  | false =>
    show (if -(2 ^ 63) ≤ (0 : Int) ∧ (0 : Int) < 2 ^ 63 ∧ [y].length * (0 : Int).toNat ≤ sizeLine then Res.ok (Val.f (.lst (List.replicate (0 : Int).toNat [y]).flatten)) U else .no) = _
    rw [if_pos ⟨by decide, by decide, by simp⟩]
    rfl
theorem encNat : Enc (fun k : Nat => PyData.int (k : Nat)) 0 := encInt.comp (f := fun k : Nat => (k : Int)) fun a b e => by omega
theorem wp_bldD {i j : Nat} {f : Ss} {ρ : Envi} {S : Sto} {K : Fw → Sto → Prop} (h : wp (f ρ S) fun w S1 => ∃ ρ1 m n ds es, w = .nx ρ1 ∧ ρ1[i]? = some (some (.c m)) ∧ ρ1[j]? = some (some (.c n)) ∧ S1[m]? = some (.dic ds) ∧ S1[n]? = some (.lst es) ∧ S.length ≤ m ∧ n < S.length ∧ es.length < sizeLine ∧ K (.nx ((keepE S.length ρ1).set i (some (.d (.dict ds))))) ((S1.take S.length).set n (.lst (es ++ [.dict ds])))) : wp (sBldD i j f ρ S) K := by
  obtain ⟨w, S1, e, ρ1, m, n, ds, es, rfl, h1, h2, h3, h4, h5, h6, h7, h8⟩ := h.ex
  unfold sBldD
  rw [e, bind_ok]
  simp only [h1, h2, h3, h4]
  rw [if_pos ⟨h5, h6, h7⟩, wp_ok]
  exact h8
theorem put_over {L : List (Int × PyData)} {k : Int} {y y' : PyData} (h : hasK L k = false) : putK1 (L ++ [(k, y)]) k y' = L ++ [(k, y')] := by
  have nk : ∀ p ∈ L, p.1 ≠ k := fun p hp e => by
    have : hasK L k = true := hasK_iff.mpr (List.mem_map.mpr ⟨p, hp, e⟩)
    rw [h] at this
    cases this
  unfold putK1
  rw [if_pos (hasK_iff.mpr (by simp)), List.map_append]
  congr 1
  · refine (List.map_congr_left fun p hp => ?_).trans (List.map_id _)
    rw [if_neg (nk p hp)]
    rfl
  · simp
section
variable {n : Nat} {adj : Nat → Nat}
structure Mb (n : Nat) (adj : Nat → Nat) (x v : Nat) (M Wt : List Nat) : Prop where
  nd : M.Nodup
  lt : ∀ j ∈ M, j < n
  own : v ∈ M
  by_ : ∀ j ∈ M, j = v ∨ ∃ u, RC adj x (2 ^ v) u ∧ (adj u).testBit j = true
  wt : ∀ u ∈ Wt, RC adj x (2 ^ v) u ∧ u ∈ M
theorem mb_count (ha : ∀ i, i < n → adj i < 2 ^ n) {x v : Nat} (hx : x < 2 ^ n) (hv : v < n) (xv : x.testBit v = true) {M : List Nat} (m : Mb n adj x v M []) (cl : ∀ u ∈ M, x.testBit u = true → ∀ j, (adj u).testBit j = true → j ∈ M) : (M.filter fun j => !x.testBit j).length = wC n adj x v := by
  have pv : 2 ^ v < 2 ^ n := Nat.pow_lt_pow_right (by decide) hv
  have cm : comeM n adj (2 ^ v) x < 2 ^ n := mask_lt _ _
  have all : ∀ {u : Nat}, RC adj x (2 ^ v) u → u ∈ M ∧ x.testBit u = true := by
    intro u hu
    induction hu with
    | base q =>
      rw [Nat.testBit_two_pow] at q
      have : v = _ := of_decide_eq_true q
      subst this
      exact ⟨m.own, xv⟩
    | step _ q1 q2 ih => exact ⟨cl _ ih.1 ih.2 _ q1, q2⟩
  unfold wC
  have p : (M.filter fun j => !x.testBit j).Perm (bitsL n (anot (besM n adj (comeM n adj (2 ^ v) x)) x)) := (List.perm_ext_iff_of_nodup (m.nd.sublist List.filter_sublist) (bitsL_nodup _ _)).mpr fun j => by
    rw [mem_bitsL, tb_anot, List.mem_filter, Bool.and_eq_true, tb_bes ha cm]
    simp only [tb_come hx pv]
    constructor
    · rintro ⟨q1, q2⟩
      refine ⟨m.lt j q1, ?_, q2⟩
      rcases m.by_ j q1 with q | q
      · subst q
        rw [xv] at q2
        cases q2
      · exact q
    · rintro ⟨_, ⟨u, q1, q2⟩, q3⟩
      obtain ⟨a, b⟩ := all q1
      exact ⟨cl u a b j q2, q3⟩
  exact p.length_eq
noncomputable def cK (n : Nat) (adj : Nat → Nat) (w : Bool) (x i : Nat) : Nat := if w = true then wC n adj x i else spC n adj x
noncomputable def dicK (n : Nat) (adj : Nat → Nat) (w : Bool) (x : Nat) : List (Int × PyData) := (bitsL n x).map fun (i : Nat) => ((i : Int), .int ((cK n adj w x i : Nat) : Int))
theorem l_costs_eq {W : Web} (h : ZW n W) (hn : n ≤ 9) (w : Bool) (S : Sto) : m_l_costs [.d (pW W), .d (.bool w)] S = .ok (.f (.lst ((List.range (2 ^ n)).map fun x => .dict (dK (dicK n (adjM W.1 W.2) w x))))) S := by
  have hz := hzZ
  have p9 := pow9 hn
  have pp : 0 < 2 ^ n := Nat.pow_pos (by decide)
  have ha : ∀ i, i < n → adjM W.1 W.2 i < 2 ^ n := fun i _ => by have := adj_lt W.1 W.2 i; rwa [h.n] at this
  have ma := fun U => l_masks_eq h hn U
  suffices z : wp (m_l_costs [.d (pW W), .d (.bool w)] S) fun v S' => v = .f (.lst ((List.range (2 ^ n)).map fun x => .dict (dK (dicK n (adjM W.1 W.2) w x)))) ∧ S' = S by
    obtain ⟨v, S', e, rfl, rfl⟩ := z.ex
    exact e
  generalize adjM W.1 W.2 = adj at *
  refine wp_fn rfl ?_
  simp only [List.map_cons, List.map_nil, List.replicate, List.cons_append, List.nil_append]
  have gl : ∀ U : Sto, g1 fLen [.d (.list (dZ (TL n adj)))] U = .ok (.d (.int (n : Nat))) U := fun U => by rw [g_lenL, dZ_len, TL_len]
  refine wp_seqN fun K kn => ?_
  simp only [e_sSet, e_Call, e_aCons, e_aNil, e_V, List.getElem?_cons_zero, List.getElem?_cons_succ, bind_ok, th_d, ma, th_f, data_lst, wp_ok, List.set_cons_zero, List.set_cons_succ]
  refine kn _ _ ?_
  clear kn K
  refine wp_seqN fun K kn => ?_
  simp only [e_sCell, e_Lst, e_aNil, bind_ok, datas_nil, List.length_nil, Nat.zero_le, if_true, wp_ok, List.set_cons_zero, List.set_cons_succ]
  refine kn _ _ ?_
  clear kn K
  refine wp_seqN fun K kn => ?_
  refine wp_forK (fun (pre : List Nat) ρ T => ∃ o4 o5 o6 o7 o8 o9 o10 o11, ρ = [some (.d (pW W)), some (.d (.bool w)), some (.d (.list (dZ (TL n adj)))), some (.c S.length), o4, o5, o6, o7, o8, o9, o10, o11] ∧ T = S ++ [.lst (pre.map fun x => .dict (dK (dicK n adj w x)))]) (List.range (2 ^ n)) (fun k => .int (0 + (k : Int))) (s := ⟨iota 0 (2 ^ n), []⟩) (S1 := S ++ [.lst []]) (by
    simp only [e_iBy, e_2, e_Call, e_aCons, e_aNil, e_V, e_K, List.getElem?_cons_zero, List.getElem?_cons_succ, bind_ok, th_d, gl, shlZ n (by omega), r1_eq (2 ^ n) (by omega)]) rfl (fun _ _ _ _ => gok_nil) ⟨none, none, none, none, none, none, none, none, rfl, rfl⟩ ?_ ?_
  · rintro pre x post ρ T e ⟨o4, o5, o6, o7, o8, o9, o10, o11, rfl, rfl⟩
    obtain ⟨hx1, hx2⟩ := range_at e
    have hx : x < 2 ^ n := by omega
    have zx : (0 : Int) + (x : Int) = ((x : Nat) : Int) := by omega
    refine ⟨_, rfl, fun K1 k1 kr1 => ?_⟩
    simp only [List.set_cons_zero, List.set_cons_succ, zx]
    generalize hFF : pre.map (fun x => PyData.dict (dK (dicK n adj w x))) = FF
    have fl : FF.length ≤ 512 := by rw [← hFF, List.length_map]; omega
    refine wp_seqN fun K2 k2 => ?_
    rw [e_sSet, comp_pure (List.range n) (fun k => .int (0 + (k : Int))) (fun k => x.testBit k) (fun k => .int (k : Nat)) (s := ⟨iota 0 n, []⟩) (by
      simp only [e_iBy, e_Call, e_aCons, e_aNil, e_V, List.getElem?_cons_zero, List.getElem?_cons_succ, bind_ok, th_d, gl, r1_eq n (by omega)]) rfl gok_nil (by simp; omega) (fun k hk => ⟨_, by simp [wipeE]; rfl, by
        obtain ⟨z, h1, h2⟩ := bit_testZ x k (S ++ [Cell.lst FF])
        have h3 : (((x / 2 ^ k % 2 : Nat) : Int) == 1) = x.testBit k := by
          rw [← div_bit, Bool.eq_iff_iff, beq_iff_eq, beq_iff_eq]
          omega
        simp only [e_tst, e_2, e_V, e_K, List.getElem?_cons_zero, List.getElem?_cons_succ, bind_ok, th_d, h1, h2, o_eqI, h3], fun _ => ⟨_, rfl, rfl⟩⟩)]
    simp only [bind_ok, th_f, data_lst, wp_ok, List.set_cons_zero, List.set_cons_succ]
    refine k2 _ _ ?_
    clear k2 K2
    rw [show ((List.range n).filter fun k => x.testBit k).map (fun k => PyData.int (k : Nat)) = dZ (bitsL n x) from rfl]
    have bl := bitsL_le n x
    have bn := bitsL_nodup n x
    -- the dict
    refine wp_bldD ?_
    refine wp_seqN fun K2 k2 => ?_
    simp only [e_sCell, e_Dic0, bind_ok, wp_ok, List.set_cons_zero, List.set_cons_succ]
    refine k2 _ _ ?_
    clear k2 K2
    rw [show (S ++ [Cell.lst FF]).length = S.length + 1 by simp, show S ++ [Cell.lst FF] ++ [Cell.dic []] = S ++ (Cell.lst FF :: .dic [] :: []) by simp]
    let D : List Nat → List (Int × PyData) := fun l => l.map fun (i : Nat) => ((i : Int), .int ((cK n adj w x i : Nat) : Int))
    have dl : ∀ l, (D l).length = l.length := fun l => by simp [D]
    have hD : ∀ (l : List Nat) (k : Nat), k ∉ l → hasK (D l) (k : Int) = false := fun l k hk => by
      cases q : hasK (D l) (k : Int) with
      | false => rfl
      | true =>
        obtain ⟨p, hp, e⟩ := List.mem_map.mp (hasK_iff.mp q)
        obtain ⟨i, hi, rfl⟩ := List.mem_map.mp hp
        have : i = k := by dsimp only at e; omega
        exact absurd (this ▸ hi) hk
    have c1 : ∀ (ps : List (PyData × PyData)) (X : Sto), (S ++ (Cell.lst FF :: .dic ps :: X))[S.length + 1]? = some (.dic ps) := fun ps X => by
      rw [List.getElem?_append_right (by omega)]
      simp
    have s1 : ∀ (ps ps' : List (PyData × PyData)) (X : Sto), (S ++ (Cell.lst FF :: .dic ps :: X)).set (S.length + 1) (.dic ps') = S ++ (Cell.lst FF :: .dic ps' :: X) := fun ps ps' X => by
      rw [List.set_append_right _ _ (by omega)]
      simp
    refine wp_forK (fun (pr : List Nat) ρ T => ∃ X o7 o8 o9 o10 o11, ρ = [some (.d (pW W)), some (.d (.bool w)), some (.d (.list (dZ (TL n adj)))), some (.c S.length), some (.d (.int (x : Nat))), some (.d (.list (dZ (bitsL n x)))), some (.c (S.length + 1)), o7, o8, o9, o10, o11] ∧ T = S ++ (Cell.lst FF :: .dic (dK (D pr)) :: X)) (bitsL n x) (fun i => .int (i : Nat)) (s := ⟨dZ (bitsL n x), []⟩) (S1 := S ++ (Cell.lst FF :: .dic [] :: [])) (by simp) rfl (fun _ _ _ _ => gok_nil) ⟨[], o7, o8, o9, o10, o11, rfl, rfl⟩ ?_ ?_
    · rintro pr i po ρ T e2 ⟨X, o7, o8, o9, o10, o11, rfl, rfl⟩
      have im : i ∈ bitsL n x := by rw [e2]; simp
      obtain ⟨il, ib⟩ := mem_bitsL.mp im
      have ip : i ∉ pr := fun q => by
        rw [e2] at bn
        exact (List.nodup_append.mp bn).2.2 i q i (by simp) rfl
      have prl : pr.length ≤ 9 := by
        have := congrArg List.length e2
        simp at this
        omega
      refine ⟨_, rfl, fun K3 k3 kr3 => ?_⟩
      simp only [List.set_cons_zero, List.set_cons_succ]
      refine wp_seqN fun K4 k4 => ?_
      generalize hU : S ++ (Cell.lst FF :: .dic (dK (D pr)) :: X) = U
      have og : ∀ (k : Nat), gGt (.d (.int ((anot (adj k) x : Nat) : Int))) (.d (.int 0)) U = .ok (.d (.bool (outB adj x k))) U := fun k => by
        rw [o_gt]
        unfold outB
        congr 3
        rw [Bool.eq_iff_iff, decide_eq_true_iff, decide_eq_true_iff]
        omega
      have bnx : (-1 : Int) - ((x : Nat) : Int) = Builtin.bitNot ((x : Nat) : Int) := by
        unfold Builtin.bitNot
        omega
      rw [e_sPut, e_Call, e_aCons, comp_pure (bitsL n x) (fun k => .int (k : Nat)) (outB adj x) (fun k => .int (k : Nat)) (s := ⟨dZ (bitsL n x), []⟩) (by simp) rfl gok_nil (by omega) (fun k hk => ⟨_, by simp [wipeE]; rfl, by
        have kl := (mem_bitsL.mp hk).1
        have a2 := an_not (adj k) x U
        simp only [e_tst, e_2, e_Un, e_V, e_K, List.getElem?_cons_zero, List.getElem?_cons_succ, bind_ok, th_d, o_ixL, TL_at kl, o_sub, bnx, a2, og], fun _ => ⟨_, rfl, rfl⟩⟩)]
      have gs := g_lenL (ds := ((bitsL n x).filter (outB adj x)).map fun k => PyData.int (k : Nat)) (S := U)
      rw [List.length_map, show ((bitsL n x).filter (outB adj x)).length = spC n adj x from rfl] at gs
      have hcU : U[S.length + 1]? = some (.dic (dK (D pr))) := by rw [← hU]; exact c1 _ _
      have pd := put_dK (k := (i : Int)) (y := .int ((spC n adj x : Nat) : Int)) hcU (by rw [dl]; omega)
      rw [put_new (hD pr i ip), ← hU, s1] at pd
      rw [← hU] at gs ⊢
      simp only [bind_ok, th_f, data_lst, e_aNil, gs, th_d, e_V, List.getElem?_cons_zero, List.getElem?_cons_succ, th_c, pd, wp_ok]
      refine k4 _ _ ?_
      clear k4 K4
      cases hw : w with
      | false =>
        subst hw
        simp only [e_sIf, e_tst, e_V, List.getElem?_cons_zero, List.getElem?_cons_succ, bind_ok, Bool.false_eq_true, if_false, e_sNil, wp_ok]
        exact k3 _ _ ⟨X, _, _, _, _, _, rfl, by simp [D, cK]⟩
      | true =>
        subst hw
        simp only [e_sIf, e_tst, e_V, List.getElem?_cons_zero, List.getElem?_cons_succ, bind_ok, if_true]
        refine wp_seqN fun K4 k4 => ?_
        generalize hB : S ++ (Cell.lst FF :: .dic (dK (D pr ++ [((i : Int), .int ((spC n adj x : Nat) : Int))])) :: X) = B
        simp only [e_sPar, e_aCell, e_aCons, e_aNil, e_Lst, e_V, List.getElem?_cons_zero, List.getElem?_cons_succ, bind_ok, th_d, datas_d, datas_nil, Option.map_some, List.length_cons, List.length_nil, Nat.reduceAdd, Nat.reduceLeDiff, if_true, wp_ok, List.set_cons_zero, List.set_cons_succ]
        refine k4 _ _ ?_
        clear k4 K4
        have c5 : ∀ (a b : List PyData), (B ++ [Cell.lst a, .lst b])[B.length]? = some (.lst a) := fun a b => by simp
        have c6 : ∀ (a b : List PyData), (B ++ [Cell.lst a, .lst b])[B.length + 1]? = some (.lst b) := fun a b => by
          rw [List.getElem?_append_right (by omega)]
          simp
        have s5 : ∀ (a b a' : List PyData), (B ++ [Cell.lst a, .lst b]).set B.length (.lst a') = B ++ [Cell.lst a', .lst b] := fun a b a' => by simp
        have s6 : ∀ (a b b' : List PyData), (B ++ [Cell.lst a, .lst b]).set (B.length + 1) (.lst b') = B ++ [Cell.lst a, .lst b'] := fun a b b' => by
          rw [List.set_append_right _ _ (by omega)]
          simp
        rw [show (B ++ [Cell.lst [PyData.int (i : Nat)]]).length = B.length + 1 by simp, List.append_assoc, List.singleton_append]
        refine wp_seqN fun K4 k4 => ?_
        refine wp_whileK (fun m ρ T => ∃ M Wt o10 o11, Mb n adj x i M Wt ∧ (∀ u ∈ M, x.testBit u = true → u ∉ Wt → ∀ j, (adj u).testBit j = true → j ∈ M) ∧ m = Wt.length + 2 * (n - M.length) ∧ Wt.length + 2 * (n - M.length) ≤ 2 * n ∧ ρ = [some (.d (pW W)), some (.d (.bool true)), some (.d (.list (dZ (TL n adj)))), some (.c S.length), some (.d (.int (x : Nat))), some (.d (.list (dZ (bitsL n x)))), some (.c (S.length + 1)), some (.d (.int (i : Nat))), some (.c B.length), some (.c (B.length + 1)), o10, o11] ∧ T = B ++ [.lst (dZ M), .lst (dZ Wt)]) ?_ 1000000 (1 + 2 * (n - 1)) _ _ (by omega) ⟨[i], [i], o10, o11, ⟨by simp, fun j hj => by rw [List.mem_singleton.mp hj]; exact il, by simp, fun j hj => .inl (List.mem_singleton.mp hj), fun u hu => by rw [List.mem_singleton.mp hu]; exact ⟨.self, by simp⟩⟩, fun u hu _ q => absurd hu q, by simp, by simp; omega, rfl, rfl⟩
        rintro m ρ T ⟨M, Wt, o10, o11, mt, cl, rfl, w40, rfl, rfl⟩ K5 kt kf
        have ml : M.length ≤ n := by
          have := L2.nat_nodup_len M (List.range n) mt.nd fun j hj => List.mem_range.mpr (mt.lt j hj)
          rwa [List.length_range] at this
        have nw : gNe (.c (B.length + 1)) (.d (.list [])) (B ++ [.lst (dZ M), .lst (dZ Wt)]) = .ok (.d (.bool (!decide (Wt = [])))) (B ++ [.lst (dZ M), .lst (dZ Wt)]) := by
          have := o_ne (v := .c (B.length + 1)) (w := .d (.list [])) (S := B ++ [.lst (dZ M), .lst (dZ Wt)]) (x := .list (dZ Wt)) (y := .list []) (by show (match (B ++ [Cell.lst (dZ M), .lst (dZ Wt)])[B.length + 1]? with | some (.lst ds) => some (PyData.list ds) | _ => none) = _; rw [c6]) rfl (encNat.lst.shaped (by decide) Wt) (encNat.lst.shaped (by decide) [])
          rw [this]
          congr 4
          have q : PyData.eqv (.list (dZ Wt)) (.list []) = decide (Wt = []) := encNat.lst.eqvD Wt []
          rw [q]
        by_cases cw : Wt = []
        · subst cw
          simp only [e_tst, e_2, e_V, e_Lst, e_aNil, datas_nil, List.length_nil, Nat.zero_le, if_true, List.getElem?_cons_zero, List.getElem?_cons_succ, bind_ok, th_c, th_d, th_f, data_lst, nw, decide_true, Bool.not_true, wp_ok]
          refine kf _ (k4 _ _ ?_)
          clear kt kf k4 K4
          have cnt := mb_count ha hx il ib mt fun u hu q => cl u hu q (by simp)
          rw [e_sPut, e_Call, e_aCons, comp_pure M (fun j => .int (j : Nat)) (fun j => !x.testBit j) (fun j => .int (j : Nat)) (s := ⟨dZ M, [(B.length, dZ M)]⟩) (by
            simp only [e_iSeq, e_V, List.getElem?_cons_zero, List.getElem?_cons_succ, bind_ok, th_c, seq_c, c5]) rfl (fun p hp => by
              rw [List.mem_singleton.mp hp]
              exact c5 _ _) (by omega) (fun j hj => ⟨_, rfl, by
                have gi := encNat.notInLd (S := B ++ [.lst (dZ M), .lst (dZ ([] : List Nat))]) j (bitsL n x)
                have gi : gNotIn (.d (.int (j : Nat))) (.d (.list (dZ (bitsL n x)))) (B ++ [.lst (dZ M), .lst (dZ ([] : List Nat))]) = _ := gi
                rw [show decide (j ∈ bitsL n x) = x.testBit j by
                  rw [Bool.eq_iff_iff, decide_eq_true_iff, mem_bitsL]
                  exact ⟨fun q => q.2, fun q => ⟨mt.lt j hj, q⟩⟩] at gi
                simp only [wipeE, List.foldl, List.set_cons_zero, List.set_cons_succ, e_tst, e_2, e_V, List.getElem?_cons_zero, List.getElem?_cons_succ, bind_ok, th_d, gi], fun _ => ⟨_, rfl, rfl⟩⟩)]
          have gl2 := g_lenL (ds := (M.filter fun j => !x.testBit j).map fun j => PyData.int (j : Nat)) (S := B ++ [.lst (dZ M), .lst (dZ ([] : List Nat))])
          rw [List.length_map, cnt] at gl2
          have hcB : (B ++ [Cell.lst (dZ M), .lst (dZ ([] : List Nat))])[S.length + 1]? = some (.dic (dK (D pr ++ [((i : Int), .int ((spC n adj x : Nat) : Int))]))) := by
            rw [← hB, List.append_assoc, List.cons_append, List.cons_append]
            exact c1 _ _
          have pd2 := put_dK (k := (i : Int)) (y := .int ((wC n adj x i : Nat) : Int)) hcB (by rw [List.length_append, dl, List.length_singleton]; omega)
          rw [put_over (hD pr i ip), ← hB, List.append_assoc, List.cons_append, List.cons_append, s1] at pd2
          rw [← hB, List.append_assoc, List.cons_append, List.cons_append] at gl2 ⊢
          simp only [bind_ok, th_f, data_lst, e_aNil, gl2, th_d, e_V, List.getElem?_cons_zero, List.getElem?_cons_succ, th_c, pd2, wp_ok]
          exact k3 _ _ ⟨X ++ [.lst (dZ M), .lst (dZ ([] : List Nat))], _, _, _, _, _, rfl, by simp [D, cK]⟩
        · obtain ⟨W0, u0, rfl⟩ : ∃ W0 u, Wt = W0 ++ [u] := ⟨Wt.dropLast, Wt.getLast cw, (List.dropLast_concat_getLast cw).symm⟩
          simp only [e_tst, e_2, e_V, e_Lst, e_aNil, datas_nil, List.length_nil, Nat.zero_le, if_true, List.getElem?_cons_zero, List.getElem?_cons_succ, bind_ok, th_c, th_d, th_f, data_lst, nw, decide_eq_false cw, Bool.not_false, wp_ok]
          refine kt _ fun K6 k6 k6r => ?_
          clear kt kf
          have un : u0 < n := mt.lt u0 (mt.wt u0 (by simp)).2
          have ur := (mt.wt u0 (by simp)).1
          have pp2 := pop_cZ (S := B ++ [.lst (dZ M), .lst (dZ (W0 ++ [u0]))]) (n := B.length + 1) (ds := dZ W0) (y := .int (u0 : Nat)) (by rw [c6]; simp [dZ])
          rw [s6] at pp2
          have ty := ty_lZ (c6 (dZ M) (dZ (W0 ++ [u0])))
          refine wp_seqN fun K7 k7 => ?_
          simp only [e_sSet, e_2, e_Mt, e_V, e_aNil, List.getElem?_cons_zero, List.getElem?_cons_succ, bind_ok, th_c, th_d, ty, if_true, pp2, o_ixL, TL_at un, wp_ok, List.set_cons_zero, List.set_cons_succ]
          refine k7 _ _ ?_
          clear k7 K7
          refine wp_forK (fun (qre : List Nat) ρ T => ∃ M' Wt' o11, Mb n adj x i M' Wt' ∧ (∀ u ∈ M', x.testBit u = true → u ∉ Wt' → u ≠ u0 → ∀ j, (adj u).testBit j = true → j ∈ M') ∧ (∀ j ∈ qre, (adj u0).testBit j = true → j ∈ M') ∧ Wt'.length + 2 * (n - M'.length) ≤ W0.length + 2 * (n - M.length) ∧ ρ = [some (.d (pW W)), some (.d (.bool true)), some (.d (.list (dZ (TL n adj)))), some (.c S.length), some (.d (.int (x : Nat))), some (.d (.list (dZ (bitsL n x)))), some (.c (S.length + 1)), some (.d (.int (i : Nat))), some (.c B.length), some (.c (B.length + 1)), some (.d (.int ((adj u0 : Nat) : Int))), o11] ∧ T = B ++ [.lst (dZ M'), .lst (dZ Wt')]) (List.range n) (fun k => .int (0 + (k : Int))) (s := ⟨iota 0 n, []⟩) (S1 := B ++ [.lst (dZ M), .lst (dZ W0)]) (by
            simp only [e_iBy, e_Call, e_aCons, e_aNil, e_V, List.getElem?_cons_zero, List.getElem?_cons_succ, bind_ok, th_d, gl, r1_eq n (by omega)]) rfl (fun _ _ _ _ => gok_nil) ⟨M, W0, o11, ⟨mt.nd, mt.lt, mt.own, mt.by_, fun u hu => mt.wt u (List.mem_append_left _ hu)⟩, fun u hu q nw' ne j hj => cl u hu q (fun m => by
              rcases List.mem_append.mp m with m | m
              · exact nw' m
              · exact ne (List.mem_singleton.mp m)) j hj, fun _ hy => (nomatch hy), Nat.le_refl _, rfl, rfl⟩ ?_ ?_
          · rintro qre j qost ρ T e3 ⟨M', Wt', o11, mt', cl', qd, le1, rfl, rfl⟩
            obtain ⟨hj1, hj2⟩ := range_at e3
            have jn : j < n := by omega
            have zj : (0 : Int) + (j : Int) = ((j : Nat) : Int) := by omega
            have ml' : M'.length ≤ n := by
              have := L2.nat_nodup_len M' (List.range n) mt'.nd fun j hj => List.mem_range.mpr (mt'.lt j hj)
              rwa [List.length_range] at this
            refine ⟨_, rfl, fun K8 k8 kr8 => ?_⟩
            simp only [List.set_cons_zero, List.set_cons_succ, zj]
            obtain ⟨z1, d1, d2⟩ := bit_testZ (adj u0) j (B ++ [.lst (dZ M'), .lst (dZ Wt')])
            have d3 : (((adj u0 / 2 ^ j % 2 : Nat) : Int) == 1) = (adj u0).testBit j := by
              rw [← div_bit, Bool.eq_iff_iff, beq_iff_eq, beq_iff_eq]
              omega
            have ni := encNat.notInC (S := B ++ [.lst (dZ M'), .lst (dZ Wt')]) j M' (c5 _ _)
            have ni : gNotIn (.d (.int (j : Nat))) (.c B.length) (B ++ [.lst (dZ M'), .lst (dZ Wt')]) = _ := ni
            by_cases ja : (adj u0).testBit j = true
            · rw [ja] at d3
              by_cases jm : j ∈ M'
              · rw [decide_eq_true jm] at ni
                simp only [e_sIf, e_bAnd, e_tst, e_2, e_V, e_K, List.getElem?_cons_zero, List.getElem?_cons_succ, bind_ok, th_c, th_d, d1, d2, o_eqI, d3, if_true, ni, Bool.not_true, Bool.false_eq_true, if_false, e_sNil, wp_ok]
                exact k8 _ _ ⟨M', Wt', some (.d (.int (j : Nat))), mt', cl', fun i hi ei => by
                  rcases List.mem_append.mp hi with hi | hi
                  · exact qd i hi ei
                  · rw [List.mem_singleton.mp hi]; exact jm, le1, rfl, rfl⟩
              · rw [decide_eq_false jm] at ni
                simp only [e_sIf, e_bAnd, e_tst, e_2, e_V, e_K, List.getElem?_cons_zero, List.getElem?_cons_succ, bind_ok, th_c, th_d, d1, d2, o_eqI, d3, if_true, ni, Bool.not_false]
                have lm : M'.length + 1 ≤ n := by
                  have := L2.nat_nodup_len (j :: M') (List.range n) (List.nodup_cons.mpr ⟨jm, mt'.nd⟩) fun i hi => by
                    rcases List.mem_cons.mp hi with rfl | hi
                    · exact List.mem_range.mpr jn
                    · exact List.mem_range.mpr (mt'.lt i hi)
                  simpa using this
                have wl0 : W0.length ≤ 40 := by simp at w40; omega
                refine wp_seqN fun K9 k9 => ?_
                have ap := app_c (y := .int (j : Nat)) (c5 (dZ M') (dZ Wt')) (by simp; omega)
                rw [s5, show dZ M' ++ [.int (j : Nat)] = dZ (M' ++ [j]) by simp [dZ]] at ap
                simp only [e_sEx, e_Mt, e_V, e_aCons, e_aNil, List.getElem?_cons_zero, List.getElem?_cons_succ, bind_ok, th_c, th_d, ty_lZ (c5 (dZ M') (dZ Wt')), if_true, ap, wp_ok]
                refine k9 _ _ ?_
                clear k9 K9
                have gi := encNat.inLd (S := B ++ [.lst (dZ (M' ++ [j])), .lst (dZ Wt')]) j (bitsL n x)
                have gi : gIn (.d (.int (j : Nat))) (.d (.list (dZ (bitsL n x)))) (B ++ [.lst (dZ (M' ++ [j])), .lst (dZ Wt')]) = _ := gi
                rw [show decide (j ∈ bitsL n x) = x.testBit j by
                  rw [Bool.eq_iff_iff, decide_eq_true_iff, mem_bitsL]
                  exact ⟨fun q => q.2, fun q => ⟨jn, q⟩⟩] at gi
                have rz := rep_Z (.int (j : Nat)) (x.testBit j) (B ++ [.lst (dZ (M' ++ [j])), .lst (dZ Wt')])
                have ex := ext_c (w := .d (.list (if x.testBit j = true then [PyData.int (j : Nat)] else []))) (es := if x.testBit j = true then [PyData.int (j : Nat)] else []) (c6 (dZ (M' ++ [j])) (dZ Wt')) rfl (by split <;> simp <;> omega)
                rw [s6, show dZ Wt' ++ (if x.testBit j = true then [PyData.int (j : Nat)] else []) = dZ (Wt' ++ (if x.testBit j = true then [j] else [])) by split <;> simp [dZ]] at ex
                simp only [e_sEx, e_Mt, e_V, List.getElem?_cons_zero, List.getElem?_cons_succ, bind_ok, th_c, ty_lZ (c6 (dZ (M' ++ [j])) (dZ Wt')), if_true, e_aCons, e_aNil, e_2, e_Lst, th_d, datas_d, datas_nil, Option.map_some, List.length_cons, List.length_nil, Nat.reduceAdd, Nat.reduceLeDiff, th_f, data_lst, e_Call, gi, g_intB, rz, ex, wp_ok]
                have lw : (Wt' ++ (if x.testBit j = true then [j] else [])).length ≤ Wt'.length + 1 := by split <;> simp
                have lM : (M' ++ [j]).length = M'.length + 1 := by simp
                refine k8 _ _ ⟨M' ++ [j], Wt' ++ (if x.testBit j = true then [j] else []), some (.d (.int (j : Nat))), ⟨List.nodup_append.mpr ⟨mt'.nd, by simp, fun a ha b hb q => by
                  rw [List.mem_singleton.mp hb] at q
                  exact jm (q ▸ ha)⟩, fun i hi => ?_, List.mem_append_left _ mt'.own, fun i hi => ?_, fun u hu => ?_⟩, fun u hu q nw' ne i hi => ?_, fun i hi ei => ?_, by rw [lM]; omega, rfl, rfl⟩
                · rcases List.mem_append.mp hi with hi | hi
                  · exact mt'.lt i hi
                  · rw [List.mem_singleton.mp hi]; exact jn
                · rcases List.mem_append.mp hi with hi | hi
                  · exact mt'.by_ i hi
                  · rw [List.mem_singleton.mp hi]; exact .inr ⟨u0, ur, ja⟩
                · rcases List.mem_append.mp hu with hu | hu
                  · exact ⟨(mt'.wt u hu).1, List.mem_append_left _ (mt'.wt u hu).2⟩
                  · split at hu
                    · rename_i jp
                      rw [List.mem_singleton.mp hu]
                      exact ⟨.step ur ja jp, by simp⟩
                    · cases hu
                · rcases List.mem_append.mp hu with hu | hu
                  · exact List.mem_append_left _ (cl' u hu q (fun m => nw' (List.mem_append_left _ m)) ne i hi)
                  · have uj := List.mem_singleton.mp hu
                    subst uj
                    exact absurd (List.mem_append_right _ (by rw [if_pos q]; simp)) nw'
                · rcases List.mem_append.mp hi with hi | hi
                  · exact List.mem_append_left _ (qd i hi ei)
                  · rw [List.mem_singleton.mp hi]
                    simp
            · have ja' := eq_false_of_ne_true ja
              rw [ja'] at d3
              simp only [e_sIf, e_bAnd, e_tst, e_2, e_V, e_K, List.getElem?_cons_zero, List.getElem?_cons_succ, bind_ok, th_d, d1, d2, o_eqI, d3, Bool.false_eq_true, if_false, e_sNil, wp_ok]
              exact k8 _ _ ⟨M', Wt', some (.d (.int (j : Nat))), mt', cl', fun i hi ei => by
                rcases List.mem_append.mp hi with hi | hi
                · exact qd i hi ei
                · rw [List.mem_singleton.mp hi] at ei
                  exact absurd ei ja, le1, rfl, rfl⟩
          · rintro ρ T ⟨M', Wt', o11, mt', cl', qd, le1, rfl, rfl⟩
            refine k6 (Wt'.length + 2 * (n - M'.length)) _ _ (by simp; omega) ⟨M', Wt', some (.d (.int ((adj u0 : Nat) : Int))), o11, mt', fun u hu q nw' j hj => ?_, rfl, by simp at w40; omega, rfl, rfl⟩
            by_cases ux : u = u0
            · subst ux
              exact qd j (List.mem_range.mpr (bit_lt (ha u un) hj)) hj
            · exact cl' u hu q nw' ux j hj
    · rintro ρ T ⟨X, o7, o8, o9, o10, o11, rfl, rfl⟩
      refine ⟨_, S.length + 1, S.length, dK (D (bitsL n x)), FF, rfl, rfl, rfl, c1 _ _, by simp, by simp, by simp, by omega, ?_⟩
      have ta : (S ++ (Cell.lst FF :: .dic (dK (D (bitsL n x))) :: X)).take (S.length + 1) = S ++ [Cell.lst FF] := by
        rw [show S ++ (Cell.lst FF :: .dic (dK (D (bitsL n x))) :: X) = (S ++ [Cell.lst FF]) ++ (.dic (dK (D (bitsL n x))) :: X) by simp, List.take_left' (by simp)]
      rw [ta]
      let g : Option Val → Option Val := fun o => (keepE (S.length + 1) [o]).headD none
      have kc : g (some (.c S.length)) = some (.c S.length) := by
        show (if S.length < S.length + 1 then some (Val.c S.length) else none) = _
        rw [if_pos (Nat.lt_succ_self _)]
      refine k1 _ _ ⟨some (.d (.int (x : Nat))), some (.d (.list (dZ (bitsL n x)))), some (.d (.dict (dK (D (bitsL n x))))), g o7, g o8, g o9, g o10, g o11, ?_, ?_⟩
      · show [_, _, _, g (some (.c S.length)), _, _, _, _, _, _, _, _] = _
        rw [kc]
        rfl
      · rw [List.map_append, hFF]
        simp [D, dicK]
  · rintro ρ T ⟨o4, o5, o6, o7, o8, o9, o10, o11, rfl, rfl⟩
    refine kn _ _ ?_
    have hc : (S ++ [Cell.lst ((List.range (2 ^ n)).map fun x => PyData.dict (dK (dicK n adj w x)))])[S.length]? = some (.lst ((List.range (2 ^ n)).map fun x => .dict (dK (dicK n adj w x)))) := by simp
    simp only [e_sRt, e_V, List.getElem?_cons_zero, List.getElem?_cons_succ, bind_ok, wp_ok]
    show wp (out S.length (S ++ [Cell.lst ((List.range (2 ^ n)).map fun x => PyData.dict (dK (dicK n adj w x)))]) (.c S.length)) _
    rw [out_c (Nat.lt_irrefl _) hc, wp_ok]
    exact ⟨rfl, by simp⟩
end
end Z
set_option Elab.async false
set_option linter.all false
set_option maxRecDepth 100000
set_option maxHeartbeats 1000000
/-! A thing looked at as a table. -/
namespace Z
open PySem PySem.Spec PyProof.Rows L2 MV
theorem isi_at {T : String} {f : Sx} {ρ : Envi} {S : Sto} {x : PyData} {b : Bool} (hf : f ρ S = .ok (.d x) S) (hk : (kind S (.d x)).map (isOf T) = some b) : evIsi T f ρ S = .ok (.d (.bool b)) S := by
  rw [e_Isi, hf, bind_ok, th_d]
  cases q : kind S (.d x) with
  | none => rw [q] at hk; cases hk
  | some t =>
    rw [q] at hk
    rw [← Option.some.inj hk]
def isI : PyData → Bool
  | .int _ => true
  | _ => false
def numsB (k : Int) : PyData → Bool
  | .tuple ds => decide ((ds.length : Int) = k) && ds.all isI
  | _ => false
theorem numsB_tup (k : Int) (ds : List PyData) : numsB k (.tuple ds) = (decide ((ds.length : Int) = k) && ds.all isI) := rfl
theorem isI_ev (y : PyData) (ρ : Envi) (S : Sto) (h : ρ[2]? = some (some (.d y))) : evAnd (evIsi "int" (evV 2)) (evNot (evIsi "bool" (evV 2))) ρ S = .ok (.d (.bool (isI y))) S := by
  have hv : evV 2 ρ S = .ok (.d y) S := by rw [e_V, h]
  cases y with
  | int i => simp only [e_And, e_tst, isi_at (T := "int") (b := true) hv rfl, bind_ok, if_true, e_Not, isi_at (T := "bool") (b := false) hv rfl, Bool.not_false, isI]
  | bool i => simp only [e_And, e_tst, isi_at (T := "int") (b := true) hv rfl, bind_ok, if_true, e_Not, isi_at (T := "bool") (b := true) hv rfl, Bool.not_true, isI]
  | none => simp only [e_And, e_tst, isi_at (T := "int") (b := false) hv rfl, bind_ok, Bool.false_eq_true, if_false, isI]
  | str i => simp only [e_And, e_tst, isi_at (T := "int") (b := false) hv rfl, bind_ok, Bool.false_eq_true, if_false, isI]
  | list i => simp only [e_And, e_tst, isi_at (T := "int") (b := false) hv rfl, bind_ok, Bool.false_eq_true, if_false, isI]
  | tuple i => simp only [e_And, e_tst, isi_at (T := "int") (b := false) hv rfl, bind_ok, Bool.false_eq_true, if_false, isI]
  | dict i => simp only [e_And, e_tst, isi_at (T := "int") (b := false) hv rfl, bind_ok, Bool.false_eq_true, if_false, isI]
theorem are_numbers_eq {x : PyData} (k : Int) (hx : ∀ ds, x = .tuple ds → ds.length ≤ 1000) (S : Sto) : m_are_numbers [.d x, .d (.int k)] S = .ok (.d (.bool (numsB k x))) S := by
  have hz := hzZ
  suffices z : wp (m_are_numbers [.d x, .d (.int k)] S) fun v S' => v = .d (.bool (numsB k x)) ∧ S' = S by
    obtain ⟨v, S', e, rfl, rfl⟩ := z.ex
    exact e
  refine wp_fn rfl ?_
  simp only [List.map_cons, List.map_nil, List.replicate, List.cons_append, List.nil_append]
  have v0 : evV 0 [some (Val.d x), some (.d (.int k)), none] S = .ok (.d x) S := rfl
  refine wp_seq fun K kn kr => ?_
  by_cases ht : (kind S (.d x)).map (isOf "tuple") = some true
  case neg =>
    have nt : ∀ ds, x ≠ .tuple ds := fun ds e => ht (by subst e; rfl)
    have hf : (kind S (.d x)).map (isOf "tuple") = some false := by
      cases x with
      | tuple ds => exact absurd rfl (nt ds)
      | _ => rfl
    have nb : numsB k x = false := by
      cases x with
      | tuple ds => exact absurd rfl (nt ds)
      | _ => rfl
    simp only [e_sIf, e_bOr, e_bNot, e_tst, isi_at (T := "tuple") (b := false) v0 hf, bind_ok, Bool.not_false, if_true, e_sRt, e_K, wp_ok]
    exact kr _ _ (wp_out_d ⟨by rw [nb], by simp⟩)
  case pos =>
    obtain ⟨ds, rfl⟩ : ∃ ds, x = .tuple ds := by
      cases x with
      | tuple ds => exact ⟨ds, rfl⟩
      | _ => exact absurd (Option.some.inj ht) (by decide)
    have dl := hx ds rfl
    have nn : gNe (.d (.int (ds.length : Nat))) (.d (.int k)) S = .ok (.d (.bool (!((ds.length : Int) == k)))) S := o_neI
    simp only [e_sIf, e_bOr, e_bNot, e_tst, isi_at (T := "tuple") (b := true) v0 rfl, bind_ok, Bool.not_true, Bool.false_eq_true, if_false, e_2, e_Call, e_aCons, e_aNil, v0, e_V, List.getElem?_cons_zero, List.getElem?_cons_succ, th_d, g_lenT, nn]
    by_cases hk : (ds.length : Int) = k
    case neg =>
      have : ((ds.length : Int) == k) = false := by rw [beq_eq_false_iff_ne]; exact hk
      simp only [this, Bool.not_false, if_true, e_sRt, e_K, bind_ok, wp_ok]
      exact kr _ _ (wp_out_d ⟨by rw [numsB_tup, decide_eq_false hk]; rfl, by simp⟩)
    case pos =>
      have : ((ds.length : Int) == k) = true := by rw [beq_iff_eq]; exact hk
      simp only [this, Bool.not_true, Bool.false_eq_true, if_false, e_sNil, wp_ok]
      refine kn _ _ ?_
      rw [e_sRt, e_Call, e_aCons, comp_map ds id (fun y => .bool (isI y)) (s := ⟨ds, []⟩) (by simp) (by simp) gok_nil (by omega) (fun y hy => ⟨_, rfl, rfl, _, isI_ev y _ S rfl, rfl⟩)]
      have al : g1 fAll [.d (.list (ds.map fun y => PyData.bool (isI y)))] S = .ok (.d (.bool ((ds.map isI).all id))) S := g_all (bs := ds.map isI) (by rw [List.map_map]; all_goals rfl)
      simp only [bind_ok, th_f, data_lst, e_aNil, al, wp_ok]
      refine wp_out_d ?_
      refine ⟨?_, by simp⟩
      rw [numsB_tup, decide_eq_true hk, List.all_map]
      rfl
def okAt (c : Nat → Nat → Nat) (T : List Int) (k i : Nat) : Bool := decide (T.getD k 0 ≤ max (T.getD (k - 2 ^ i) 0) (c k i : Nat))
def shwB (n : Nat) (c : Nat → Nat → Nat) (many : Int) (T : List Int) : Bool := decide (T.getD 0 0 ≤ 0) && ((List.range (2 ^ n - 1)).all fun k => (bitsL n (k + 1)).all fun i => okAt c T (k + 1) i) && decide (many ≤ T.getD (2 ^ n - 1) 0)
section
variable {n : Nat} {adj : Nat → Nat} {c : Nat → Nat → Nat} {nm : Str} {m : Fn} {S : Sto} {T : List Int} {W : Web} {FT : List (Str × Fn)}
theorem ixTI {j : Nat} (h : j < T.length) (S : Sto) : gIx (.d (.tuple (dI T))) (.d (.int (j : Nat))) S = .ok (.d (.int (T.getD j 0))) S := by
  have a : atI (dI T) (j : Nat) = some (.int (T.getD j 0)) := at_nat (by omega) (by simp [h])
  rw [o_ixT, a]
theorem lastI_eq (hL : m_last_cost = mkFn 5 5 (sRt (evCall gMax (aCons (ev2 gIx (evV 1) (ev2 gSub (evV 2) (ev2 gShl (evK (.int 1)) (evV 3)))) (aCons (evCallV 4 FT (aCons (evV 0) (aCons (evV 2) (aCons (evV 3) (aNil))))) (aNil)))))) (hT : FT.lookup nm = some m)
    (hc : CostIs nm m n adj c) (hn : n ≤ 20) {x i : Nat} (hx : x < 2 ^ n) (hi : i ∈ bitsL n x) (tl : T.length = 2 ^ n) :
    m_last_cost [.d (.list (dZ (TL n adj))), .d (.tuple (dI T)), .d (.int (x : Nat)), .d (.int (i : Nat)), .o nm] S = .ok (.d (.int (max (T.getD (x - 2 ^ i) 0) (c x i : Nat)))) S := by
  suffices z : wp (m_last_cost [.d (.list (dZ (TL n adj))), .d (.tuple (dI T)), .d (.int (x : Nat)), .d (.int (i : Nat)), .o nm] S) fun v S' => v = .d (.int (max (T.getD (x - 2 ^ i) 0) (c x i : Nat))) ∧ S' = S by
    obtain ⟨v, S', e, rfl, rfl⟩ := z.ex
    exact e
  rw [hL]
  refine wp_fn rfl ?_
  have ib := mem_bitsL.mp hi
  have pl := pow_le_bit ib.2
  have pp : 0 < 2 ^ i := Nat.pow_pos (by decide)
  have ix := ixTI (T := T) (j := x - 2 ^ i) (by omega) S
  have sb : (x : Int) - ((2 ^ i : Nat) : Int) = ((x - 2 ^ i : Nat) : Int) := by omega
  have mx : gMax [.d (.int (T.getD (x - 2 ^ i) 0)), .d (.int (c x i : Nat))] S = .ok (.d (.int (max (T.getD (x - 2 ^ i) 0) (c x i : Nat)))) S := by
    rw [g_max2]
    congr 3
    split <;> omega
  simp only [List.map_cons, List.map_nil, List.replicate, List.cons_append, List.nil_append, e_sRt]
  rw [e_Call, e_aCons]
  simp only [e_2, e_V, e_K, List.getElem?_cons_zero, List.getElem?_cons_succ, bind_ok, th_d, shlZ i (by omega), o_sub, sb, ix, e_aCons, e_aNil]
  rw [e_CallV (nm := nm) (m := m) rfl hT]
  simp only [e_Call, e_aCons, e_aNil, e_V, List.getElem?_cons_zero, List.getElem?_cons_succ, bind_ok, th_d, hc hx hi, mx, wp_ok]
  exact wp_out_d ⟨rfl, by simp⟩
theorem shows_no (h : ZW n W) (hn : n ≤ 9) {x : PyData} (hx : ∀ ds, x = .tuple ds → ds.length ≤ 1000) (hb : numsB ((2 ^ n : Nat) : Int) x = false) (many : Int) (S : Sto) : m_shows_by [.d (pW W), .d (.int many), .d x, .o nm] S = .ok (.d (.bool false)) S := by
  suffices z : wp (m_shows_by [.d (pW W), .d (.int many), .d x, .o nm] S) fun v S' => v = .d (.bool false) ∧ S' = S by
    obtain ⟨v, S', e, rfl, rfl⟩ := z.ex
    exact e
  refine wp_fn rfl ?_
  simp only [List.map_cons, List.map_nil, List.replicate, List.cons_append, List.nil_append]
  refine wp_seqN fun K kn => ?_
  simp only [e_sSet, e_Call, e_aCons, e_aNil, e_V, List.getElem?_cons_zero, List.getElem?_cons_succ, bind_ok, th_d, ties_by_eq h hn, th_f, data_lst, wp_ok, List.set_cons_zero, List.set_cons_succ]
  refine kn _ _ ?_
  clear kn K
  refine wp_seq fun K kn kr => ?_
  have an := are_numbers_eq ((2 ^ n : Nat) : Int) hx S
  rw [hb] at an
  simp only [e_sIf, e_bOr, e_bNot, e_tst, e_2, e_Call, e_aCons, e_aNil, e_V, e_K, List.getElem?_cons_zero, List.getElem?_cons_succ, bind_ok, th_d, g_lenL, dZ_len, TL_len, shlZ n (by omega), an, Bool.not_false, if_true, e_sRt, wp_ok]
  exact kr _ _ (wp_out_d ⟨rfl, by simp⟩)
theorem numsB_dI {T : List Int} {k : Int} (h : (T.length : Int) = k) : numsB k (.tuple (dI T)) = true := by
  rw [numsB_tup, show (dI T).length = T.length from List.length_map _, decide_eq_true h, Bool.true_and]
  exact List.all_eq_true.mpr fun x hx => by
    obtain ⟨i, _, rfl⟩ := List.mem_map.mp hx
    rfl
theorem shows_by_eq (hL : m_last_cost = mkFn 5 5 (sRt (evCall gMax (aCons (ev2 gIx (evV 1) (ev2 gSub (evV 2) (ev2 gShl (evK (.int 1)) (evV 3)))) (aCons (evCallV 4 FT (aCons (evV 0) (aCons (evV 2) (aCons (evV 3) (aNil))))) (aNil)))))) (hT : FT.lookup nm = some m)
    (h : ZW n W) (hn : n ≤ 9) (hc : CostIs nm m n (adjM W.1 W.2) c) (many : Int) (tl : T.length = 2 ^ n) (S : Sto) : m_shows_by [.d (pW W), .d (.int many), .d (.tuple (dI T)), .o nm] S = .ok (.d (.bool (shwB n c many T))) S := by
  have hz := hzZ
  have p9 := pow9 hn
  have pp : 0 < 2 ^ n := Nat.pow_pos (by decide)
  have dl : (dI T).length = 2 ^ n := by rw [← tl]; exact List.length_map _
  suffices z : wp (m_shows_by [.d (pW W), .d (.int many), .d (.tuple (dI T)), .o nm] S) fun v S' => v = .d (.bool (shwB n c many T)) ∧ S' = S by
    obtain ⟨v, S', e, rfl, rfl⟩ := z.ex
    exact e
  refine wp_fn rfl ?_
  simp only [List.map_cons, List.map_nil, List.replicate, List.cons_append, List.nil_append]
  refine wp_seqN fun K kn => ?_
  simp only [e_sSet, e_Call, e_aCons, e_aNil, e_V, List.getElem?_cons_zero, List.getElem?_cons_succ, bind_ok, th_d, ties_by_eq h hn, th_f, data_lst, wp_ok, List.set_cons_zero, List.set_cons_succ]
  refine kn _ _ ?_
  clear kn K
  refine wp_seq fun K kn kr => ?_
  have an := are_numbers_eq (x := .tuple (dI T)) ((2 ^ n : Nat) : Int) (fun ds e => by cases e; omega) S
  rw [numsB_dI (by rw [tl])] at an
  have i0 : gIx (.d (.tuple (dI T))) (.d (.int 0)) S = .ok (.d (.int (T.getD 0 0))) S := ixTI (j := 0) (by omega) S
  simp only [e_sIf, e_bOr, e_bNot, e_tst, e_2, e_Call, e_aCons, e_aNil, e_V, e_K, List.getElem?_cons_zero, List.getElem?_cons_succ, bind_ok, th_d, g_lenL, dZ_len, TL_len, shlZ n (by omega), an, Bool.not_true, Bool.false_eq_true, if_false, i0, o_gt]
  by_cases z0 : 0 < T.getD 0 0
  case pos =>
    simp only [decide_eq_true z0, if_true, e_sRt, e_K, bind_ok, wp_ok]
    refine kr _ _ (wp_out_d ⟨?_, by simp⟩)
    unfold shwB
    rw [decide_eq_false (by omega : ¬ T.getD 0 0 ≤ 0)]
    rfl
  case neg =>
  simp only [decide_eq_false z0, Bool.false_eq_true, if_false, e_sNil, wp_ok]
  refine kn _ _ ?_
  clear kn kr K
  have z1 : decide (T.getD 0 0 ≤ 0) = true := decide_eq_true (by omega)
  refine wp_seq fun K kn kr => ?_
  refine wp_forK (fun (pre : List Nat) ρ U => (∀ k ∈ pre, (bitsL n (k + 1)).all (fun i => okAt c T (k + 1) i) = true) ∧ ∃ o5 o6, ρ = [some (.d (pW W)), some (.d (.int many)), some (.d (.tuple (dI T))), some (.o nm), some (.d (.list (dZ (TL n (adjM W.1 W.2))))), o5, o6] ∧ U = S) (List.range (2 ^ n - 1)) (fun k => .int (1 + (k : Int))) (s := ⟨iota 1 (2 ^ n - 1), []⟩) (S1 := S) (by
    have rg := e_range2 (i := 1) (j := ((2 ^ n : Nat) : Int)) (by omega) (by omega) (by omega) (by omega)
    rw [show (((2 ^ n : Nat) : Int) - 1).toNat = 2 ^ n - 1 by omega] at rg
    simp only [e_iBy, e_2, e_Call, e_aCons, e_aNil, e_V, e_K, List.getElem?_cons_zero, List.getElem?_cons_succ, bind_ok, th_d, g_lenT, dl, rg]) rfl (fun _ _ _ _ => gok_nil) ⟨(fun _ hy => nomatch hy), none, none, rfl, rfl⟩ ?_ ?_
  · rintro pre k post ρ U e ⟨al, o5, o6, rfl, rfl⟩
    obtain ⟨hk1, hk2⟩ := range_at e
    have xe : (1 : Int) + (k : Int) = ((k + 1 : Nat) : Int) := by omega
    have kx : k + 1 < 2 ^ n := by omega
    have bl := bitsL_le n (k + 1)
    refine ⟨_, rfl, fun K1 k1 kr1 => ?_⟩
    simp only [List.set_cons_zero, List.set_cons_succ, xe]
    refine wp_forK (fun (qre : List Nat) ρ U' => (∀ i ∈ qre, okAt c T (k + 1) i = true) ∧ ∃ o6, ρ = [some (.d (pW W)), some (.d (.int many)), some (.d (.tuple (dI T))), some (.o nm), some (.d (.list (dZ (TL n (adjM W.1 W.2))))), some (.d (.int ((k + 1 : Nat) : Int))), o6] ∧ U' = U) (bitsL n (k + 1)) (fun i => .int (i : Nat)) (s := ⟨dZ (bitsL n (k + 1)), []⟩) (S1 := U) (by
      simp only [e_iSeq, e_Call, e_aCons, e_aNil, e_V, List.getElem?_cons_zero, List.getElem?_cons_succ, bind_ok, th_d, members_eq kx (by omega), th_f, data_lst, seq_l]) rfl (fun _ _ _ _ => gok_nil) ⟨(fun _ hy => nomatch hy), o6, rfl, rfl⟩ ?_ ?_
    · rintro qre i qost ρ U' e2 ⟨al2, o6, rfl, rfl⟩
      have im : i ∈ bitsL n (k + 1) := by rw [e2]; simp
      refine ⟨_, rfl, fun K3 k3 kr3 => ?_⟩
      have le := lastI_eq (S := U') hL hT hc (by omega) kx im tl
      have ix := ixTI (T := T) (j := k + 1) (by omega) U'
      simp only [List.set_cons_zero, List.set_cons_succ, e_sIf, e_tst, e_2, e_Call, e_aCons, e_aNil, e_V, List.getElem?_cons_zero, List.getElem?_cons_succ, bind_ok, th_d, ix]
      rw [show (Val.o nm).th = .o nm from rfl, le]
      simp only [bind_ok, th_d, o_gt]
      by_cases q : max (T.getD (k + 1 - 2 ^ i) 0) (c (k + 1) i : Nat) < T.getD (k + 1) 0
      · simp only [decide_eq_true q, if_true, e_sRt, e_K, bind_ok, wp_ok]
        refine kr3 _ _ (kr1 _ _ (kr _ _ (wp_out_d ⟨?_, by simp⟩)))
        unfold shwB
        have : ((List.range (2 ^ n - 1)).all fun k => (bitsL n (k + 1)).all fun i => okAt c T (k + 1) i) = false := by
          rw [Bool.eq_false_iff]
          intro al
          have a1 := List.all_eq_true.mp (List.all_eq_true.mp al k (List.mem_range.mpr (by omega))) i im
          unfold okAt at a1
          have a2 := of_decide_eq_true a1
          omega
        rw [this]
        simp
      · simp only [decide_eq_false q, Bool.false_eq_true, if_false, e_sNil, wp_ok]
        refine k3 _ _ ⟨fun j hj => ?_, _, rfl, rfl⟩
        rcases List.mem_append.mp hj with hj | hj
        · exact al2 j hj
        · rw [List.mem_singleton.mp hj]
          exact decide_eq_true (by omega)
    · rintro ρ U' ⟨al2, o6, rfl, rfl⟩
      refine k1 _ _ ⟨fun j hj => ?_, _, _, rfl, rfl⟩
      rcases List.mem_append.mp hj with hj | hj
      · exact al j hj
      · rw [List.mem_singleton.mp hj]
        exact List.all_eq_true.mpr al2
  · rintro ρ U ⟨al, o5, o6, rfl, rfl⟩
    refine kn _ _ ?_
    have il : gIx (.d (.tuple (dI T))) (.d (.int (-1))) U = .ok (.d (.int (T.getD (2 ^ n - 1) 0))) U := by
      obtain ⟨L, y, rfl⟩ : ∃ L y, T = L ++ [y] := ⟨T.dropLast, T.getLast (by intro q; subst q; simp at tl; omega), (List.dropLast_concat_getLast _).symm⟩
      rw [o_ixT, show dI (L ++ [y]) = dI L ++ [.int y] by simp, at_last]
      simp only [List.length_append, List.length_singleton] at tl
      rw [show 2 ^ n - 1 = L.length by omega]
      simp
    simp only [e_sRt, e_2, e_Un, e_V, e_K, List.getElem?_cons_zero, List.getElem?_cons_succ, bind_ok, th_d, il, o_ge, wp_ok]
    refine wp_out_d ?_
    refine ⟨?_, by simp⟩
    unfold shwB
    rw [z1, List.all_eq_true.mpr al]
    rfl
end
end Z
set_option Elab.async false
set_option linter.all false
set_option maxRecDepth 100000
set_option maxHeartbeats 1000000
namespace Z
open PySem PySem.Spec PyProof.Rows L2 MV
theorem dK_keys (kvs : List (Int × PyData)) : (dK kvs).map (·.1) = dI (kvs.map (·.1)) := by
  show _ = List.map PyData.int _
  unfold dK
  rw [List.map_map, List.map_map]
  rfl
section
variable {W : Web} {n : Nat}
theorem greatest_eq (hn : n ≤ 9) (adj : Nat → Nat) (w : Bool) (S : Sto) : m_l_greatest [.d (.list ((List.range (2 ^ n)).map fun x => .dict (dK (dicK n adj w x))))] S = .ok (.f (.lst (dZ (tabs n (cK n adj w) (2 ^ n - 1))))) S := by
  have hz := hzZ
  have p9 := pow9 hn
  have pp : 0 < 2 ^ n := Nat.pow_pos (by decide)
  suffices z : wp (m_l_greatest [.d (.list ((List.range (2 ^ n)).map fun x => .dict (dK (dicK n adj w x))))] S) fun v S' => v = .f (.lst (dZ (tabs n (cK n adj w) (2 ^ n - 1)))) ∧ S' = S by
    obtain ⟨v, S', e, rfl, rfl⟩ := z.ex
    exact e
  have cat : ∀ x : Nat, x < 2 ^ n → atI ((List.range (2 ^ n)).map fun x => PyData.dict (dK (dicK n adj w x))) (x : Nat) = some (.dict (dK (dicK n adj w x))) := fun x hx => at_nat (by omega) (by
    rw [Int.toNat_natCast, List.getElem?_map, List.getElem?_range hx]
    rfl)
  have clen : ∀ U : Sto, g1 fLen [.d (.list ((List.range (2 ^ n)).map fun x => PyData.dict (dK (dicK n adj w x))))] U = .ok (.d (.int ((2 ^ n : Nat) : Int))) U := fun U => by rw [g_lenL, List.length_map, List.length_range]
  generalize (List.range (2 ^ n)).map (fun x => PyData.dict (dK (dicK n adj w x))) = C at *
  refine wp_fn rfl ?_
  simp only [List.map_cons, List.map_nil, List.replicate, List.cons_append, List.nil_append]
  refine wp_seqN fun K kn => ?_
  simp only [e_sCell, e_Lst, e_aCons, e_aNil, e_K, bind_ok, th_d, datas_d, datas_nil, Option.map_some, List.length_cons, List.length_nil, Nat.reduceAdd, Nat.reduceLeDiff, if_true, wp_ok, List.set_cons_zero, List.set_cons_succ]
  refine kn _ _ ?_
  clear kn K
  refine wp_seqN fun K kn => ?_
  refine wp_forK (fun (pre : List Nat) ρ T => ∃ o2 o3 o4, ρ = [some (.d (.list C)), some (.c S.length), o2, o3, o4, none] ∧ T = S ++ [.lst (dZ (tabs n (cK n adj w) pre.length))]) (List.range (2 ^ n - 1)) (fun k => .int (1 + (k : Int))) (s := ⟨iota 1 (2 ^ n - 1), []⟩) (S1 := S ++ [.lst [.int 0]]) (by
    have rg := e_range2 (i := 1) (j := ((2 ^ n : Nat) : Int)) (by omega) (by omega) (by omega) (by omega)
    rw [show (((2 ^ n : Nat) : Int) - 1).toNat = 2 ^ n - 1 by omega] at rg
    simp only [e_iBy, e_Call, e_aCons, e_aNil, e_V, e_K, List.getElem?_cons_zero, List.getElem?_cons_succ, bind_ok, th_d, clen, rg]) rfl (fun _ _ _ _ => gok_nil) ⟨none, none, none, rfl, rfl⟩ ?_ ?_
  · rintro pre k post ρ T e ⟨o2, o3, o4, rfl, rfl⟩
    obtain ⟨hk1, hk2⟩ := range_at e
    have pk : pre.length = k := by omega
    refine ⟨_, rfl, fun K1 k1 kr1 => ?_⟩
    have hcell : (S ++ [Cell.lst (dZ (tabs n (cK n adj w) pre.length))])[S.length]? = some (.lst (dZ (tabs n (cK n adj w) pre.length))) := by simp
    have xe : (1 : Int) + (k : Int) = ((k + 1 : Nat) : Int) := by omega
    have kx : k + 1 < 2 ^ n := by omega
    have bn := bitsL_ne (n := n) (x := k + 1) (by omega) kx
    have bl := bitsL_le n (k + 1)
    have bnd := bitsL_nodup n (k + 1)
    simp only [List.set_cons_zero, List.set_cons_succ, xe]
    generalize hU : S ++ [Cell.lst (dZ (tabs n (cK n adj w) pre.length))] = U at *
    refine wp_seqN fun K2 k2 => ?_
    simp only [e_sSet, e_2, e_V, List.getElem?_cons_zero, List.getElem?_cons_succ, bind_ok, th_d, o_ixL, cat _ kx, wp_ok, List.set_cons_zero, List.set_cons_succ]
    refine k2 _ _ ?_
    clear k2 K2
    have look : ∀ i ∈ bitsL n (k + 1), gIx (.d (.dict (dK (dicK n adj w (k + 1))))) (.d (.int (i : Nat))) U = .ok (.d (.int ((cK n adj w (k + 1) i : Nat) : Int))) U := fun i hi => ix_dicD (lookK_of (by
      unfold dicK
      rw [List.map_map, List.Nodup, List.pairwise_map]
      exact bnd.imp fun h e => h (by dsimp only [Function.comp] at e; omega)) (List.mem_map.mpr ⟨i, hi, rfl⟩))
    have ks : (dK (dicK n adj w (k + 1))).map (·.1) = dZ (bitsL n (k + 1)) := by
      rw [dK_keys]
      unfold dicK
      rw [List.map_map, dZ_I]
      rfl
    refine wp_seqN fun K2 k2 => ?_
    rw [e_sSet, comp_map (bitsL n (k + 1)) (fun i => .int (i : Nat)) (fun i => .int ((max (tab n (cK n adj w) (k + 1 - 2 ^ i)) (cK n adj w (k + 1) i) : Nat) : Int)) (s := ⟨(dK (dicK n adj w (k + 1))).map (·.1), []⟩) (by rfl) ks gok_nil (by omega) (fun i hi => ⟨_, rfl, rfl, .d (.int ((max (tab n (cK n adj w) (k + 1 - 2 ^ i)) (cK n adj w (k + 1) i) : Nat) : Int)), by
      have ib := mem_bitsL.mp hi
      have pl := pow_le_bit ib.2
      have pq : 0 < 2 ^ i := Nat.pow_pos (by decide)
      obtain ⟨ix, _⟩ := ix_Z (S := U) (tv := .c S.length) (l := tabs n (cK n adj w) pre.length) (.inl ⟨_, rfl, hcell⟩) (tabs_at (n := n) (c := cK n adj w) (j := k + 1 - 2 ^ i) (by omega))
      have sb : ((k + 1 : Nat) : Int) - ((2 ^ i : Nat) : Int) = ((k + 1 - 2 ^ i : Nat) : Int) := by omega
      simp only [wipeE, List.foldl, List.set_cons_zero, List.set_cons_succ, e_Call, e_aCons, e_aNil, e_2, e_V, e_K, List.getElem?_cons_zero, List.getElem?_cons_succ, bind_ok, th_d, th_c, shlZ i (by omega), o_sub, sb, ix, look i hi, max_ZZ], rfl⟩)]
    simp only [bind_ok, th_f, data_lst, wp_ok, List.set_cons_zero, List.set_cons_succ]
    refine k2 _ _ ?_
    clear k2 K2
    have mz := min_Z (l := (bitsL n (k + 1)).map fun i => max (tab n (cK n adj w) (k + 1 - 2 ^ i)) (cK n adj w (k + 1) i)) (by simp; exact bn) U
    rw [← tab_next, show dZ ((bitsL n (k + 1)).map fun i => max (tab n (cK n adj w) (k + 1 - 2 ^ i)) (cK n adj w (k + 1) i)) = (bitsL n (k + 1)).map (fun i => PyData.int ((max (tab n (cK n adj w) (k + 1 - 2 ^ i)) (cK n adj w (k + 1) i) : Nat) : Int)) by unfold dZ; rw [List.map_map]; rfl] at mz
    have ap := app_c (y := .int ((tab n (cK n adj w) (k + 1) : Nat) : Int)) hcell (by rw [dZ_len, tabs_len]; omega)
    have tn : tabs n (cK n adj w) (k + 1) = tabs n (cK n adj w) k ++ [tab n (cK n adj w) (k + 1)] := by
      have e1 := tabs_at (n := n) (c := cK n adj w) (k := k + 1) (j := k + 1) (Nat.le_refl _)
      rw [tabs] at e1 ⊢
      rw [List.getElem?_append_right (by rw [tabs_len]; omega), tabs_len, Nat.sub_self] at e1
      rw [Option.some.inj e1]
    simp only [e_sEx, e_Mt, e_V, e_Call, e_aCons, e_aNil, List.getElem?_cons_zero, List.getElem?_cons_succ, bind_ok, th_c, th_d, ty_lZ hcell, if_true, mz, ap, wp_ok]
    refine k1 _ _ ⟨_, _, _, rfl, ?_⟩
    rw [← hU, List.length_append, List.length_singleton, pk, tn]
    simp [dZ]
  · rintro ρ T ⟨o2, o3, o4, rfl, rfl⟩
    refine kn _ _ ?_
    rw [List.length_range]
    have hcell : (S ++ [Cell.lst (dZ (tabs n (cK n adj w) (2 ^ n - 1)))])[S.length]? = some (.lst (dZ (tabs n (cK n adj w) (2 ^ n - 1)))) := by simp
    simp only [e_sRt, e_V, List.getElem?_cons_zero, List.getElem?_cons_succ, bind_ok, wp_ok]
    show wp (out S.length (S ++ [Cell.lst (dZ (tabs n (cK n adj w) (2 ^ n - 1)))]) (.c S.length)) _
    rw [out_c (Nat.lt_irrefl _) hcell, wp_ok]
    exact ⟨rfl, by simp⟩
theorem costA (h : ZW n W) (hn : n ≤ 9) : CostIs "width_cost" m_width_cost n (adjM W.1 W.2) (cK n (adjM W.1 W.2) true) := fun hx hi S =>
  width_cost_eq (fun i _ => by have := adj_lt W.1 W.2 i; rwa [h.n] at this) hx (by omega) (mem_bitsL.mp hi).1 S
theorem costB (h : ZW n W) (hn : n ≤ 9) : CostIs "spread_cost" m_spread_cost n (adjM W.1 W.2) (cK n (adjM W.1 W.2) false) := fun hx hi S =>
  sp_cost (by omega) "spread_cost" hx hi S
end
end Z
set_option Elab.async false
set_option linter.all false
set_option maxRecDepth 100000
set_option maxHeartbeats 1000000
/-! k28: picks; the table told. -/
namespace Z
open PySem PySem.Spec PyProof.Rows L2 MV
section
variable {n : Nat} {T : List Int}
theorem ixLI {j : Nat} (h : j < T.length) (S : Sto) : gIx (.d (.list (dI T))) (.d (.int (j : Nat))) S = .ok (.d (.int (T.getD j 0))) S := by
  have a : atI (dI T) (j : Nat) = some (.int (T.getD j 0)) := at_nat (by omega) (by simp [h])
  rw [o_ixL, a]
theorem ix_endL {k : Nat} (h : T.length = k + 1) (S : Sto) : gIx (.d (.list (dI T))) (.d (.int (-1))) S = .ok (.d (.int (T.getD k 0))) S := by
  obtain ⟨L, y, rfl⟩ : ∃ L y, T = L ++ [y] := ⟨T.dropLast, T.getLast (by intro q; subst q; simp at h), (List.dropLast_concat_getLast _).symm⟩
  rw [o_ixL, show dI (L ++ [y]) = dI L ++ [.int y] by simp, at_last]
  simp only [List.length_append, List.length_singleton] at h
  rw [show k = L.length by omega]
  simp
end
theorem pick_eq {S : Sto} {i : Nat} {l : List PyData} {ds : List PyData} (hn : S[i]? = some (.lst l)) (hl : HP l) (h0 : ds ≠ []) (h1 : ds.length ≤ 1000) : ∃ l' y, m_l_pick [.c i, .d (.list ds)] S = .ok (.d y) (S.set i (.lst l')) ∧ HP l' ∧ y ∈ ds := by
  have dp : 0 < ds.length := List.length_pos_iff.mpr h0
  obtain ⟨l', r, e, hl', r0, r1⟩ := take_ex hn hl (m := (ds.length : Nat)) (by omega) (by omega)
  have rl : r.toNat < ds.length := by omega
  refine ⟨l', ds[r.toNat], ?_, hl', List.getElem_mem _⟩
  suffices z : wp (m_l_pick [.c i, .d (.list ds)] S) fun v S' => v = .d ds[r.toNat] ∧ S' = S.set i (.lst l') by
    obtain ⟨v, S', e, rfl, rfl⟩ := z.ex
    exact e
  refine wp_fn rfl ?_
  have a : atI ds r = some ds[r.toNat] := at_nat r0 (List.getElem?_eq_getElem rl)
  simp only [y_l_pick, List.map_cons, List.map_nil, List.replicate, List.cons_append, List.nil_append, e_sRt, e_2, e_Call, e_aCons, e_aNil, e_V, List.getElem?_cons_zero, List.getElem?_cons_succ, bind_ok, th_c, th_d, g_lenL, e, o_ixL, a, wp_ok]
  exact wp_out_d ⟨rfl, by simp⟩
theorem cK_le {n : Nat} {adj : Nat → Nat} {w : Bool} {x i : Nat} : cK n adj w x i ≤ n := by
  unfold cK
  split
  · unfold wC
    exact bitsL_le _ _
  · unfold spC
    exact Nat.le_trans (List.length_filter_le _ _) (bitsL_le _ _)
theorem tab_bound {n : Nat} {c : Nat → Nat → Nat} {b : Nat} (hc : ∀ x i, c x i ≤ b) : ∀ x, x < 2 ^ n → tab n c x ≤ b := by
  intro x
  induction x using Nat.strongRecOn with
  | _ x ih =>
    intro hx
    rcases Nat.eq_zero_or_pos x with rfl | hp
    · rw [tab_zero]; omega
    · rw [tab_step hp]
      have m := minN_mem (l := (bitsL n x).map fun i => max (tab n c (x - 2 ^ i)) (c x i)) (by simp; exact bitsL_ne hp hx)
      obtain ⟨i, hi, e⟩ := List.mem_map.mp m
      rw [← e]
      have p : 0 < 2 ^ i := Nat.pow_pos (by decide)
      have q := pow_le_bit (mem_bitsL.mp hi).2
      have := ih (x - 2 ^ i) (by omega) (by omega)
      have := hc x i
      omega
theorem tabs_mem {n : Nat} {c : Nat → Nat → Nat} {k v : Nat} (h : v ∈ tabs n c k) : ∃ j, j ≤ k ∧ v = tab n c j := by
  obtain ⟨j, hj, e⟩ := List.mem_iff_getElem.mp h
  rw [tabs_len] at hj
  refine ⟨j, by omega, ?_⟩
  have := tabs_at (n := n) (c := c) (k := k) (j := j) (by omega)
  rw [List.getElem?_eq_getElem (by rw [tabs_len]; omega), e] at this
  exact Option.some.inj this
section
variable {n : Nat} {W : Web}
noncomputable def tI (n : Nat) (adj : Nat → Nat) (w : Bool) : List Int := (tabs n (cK n adj w) (2 ^ n - 1)).map fun (k : Nat) => (k : Int)
theorem tI_getD {adj : Nat → Nat} {w : Bool} {j : Nat} (h : j ≤ 2 ^ n - 1) : (tI n adj w).getD j 0 = (tab n (cK n adj w) j : Nat) := by
  unfold tI
  rw [List.getD_eq_getElem?_getD, List.getElem?_map, tabs_at h]
  rfl
theorem tI_len (adj : Nat → Nat) (w : Bool) : (tI n adj w).length = 2 ^ n := by
  have pp : 0 < 2 ^ n := Nat.pow_pos (by decide)
  unfold tI
  rw [List.length_map, tabs_len]
  omega
theorem shw_best {adj : Nat → Nat} {w : Bool} {many : Int} : shwB n (cK n adj w) many (tI n adj w) = decide (many ≤ (tab n (cK n adj w) (2 ^ n - 1) : Nat)) := by
  unfold shwB
  have a0 : decide ((tI n adj w).getD 0 0 ≤ 0) = true := decide_eq_true (by rw [tI_getD (Nat.zero_le _), tab_zero]; omega)
  have a1 : ((List.range (2 ^ n - 1)).all fun k => (bitsL n (k + 1)).all fun i => okAt (cK n adj w) (tI n adj w) (k + 1) i) = true := List.all_eq_true.mpr fun k hk => List.all_eq_true.mpr fun i hi => decide_eq_true (by
    have hk := List.mem_range.mp hk
    have p : 0 < 2 ^ i := Nat.pow_pos (by decide)
    have q := pow_le_bit (mem_bitsL.mp hi).2
    rw [tI_getD (by omega), tI_getD (by omega), tab_next]
    have := minN_le (l := (bitsL n (k + 1)).map fun i => max (tab n (cK n adj w) (k + 1 - 2 ^ i)) (cK n adj w (k + 1) i)) (List.mem_map.mpr ⟨i, hi, rfl⟩)
    omega)
  rw [a0, a1, tI_getD (Nat.le_refl _)]
  rfl
theorem shows_eq (h : ZW n W) (hn : n ≤ 9) (w : Bool) (many : Int) {T : List Int} (tl : T.length = 2 ^ n) (i : Nat) {ρ : Envi} {f : SA} {S : Sto} (hi : ρ[i]? = some (some (.o (if w = true then "shows_width" else "shows_spread")))) (hf : f ρ S = .ok [.d (pW W), .d (.int many), .d (.tuple (dI T))] S) :
    evCallV i [("shows_spread", m_shows_spread), ("shows_width", m_shows_width)] f ρ S = .ok (.d (.bool (shwB n (cK n (adjM W.1 W.2) w) many T))) S := by
  have tho : ∀ x : Str, (Val.o x).th = .o x := fun _ => rfl
  cases w with
  | true =>
    have e := shows_by_eq (nm := "width_cost") (m := m_width_cost) (c := cK n (adjM W.1 W.2) true) (FT := [("spread_cost", m_spread_cost), ("width_cost", m_width_cost)]) rfl (by first | rfl | simp [List.lookup]) h hn (costA h hn) many tl S
    rw [e_CallV (nm := "shows_width") (m := m_shows_width) (by rw [hi]; rfl) (by first | rfl | simp [List.lookup]), e_Call, hf, bind_ok]
    suffices z : wp (m_shows_width [.d (pW W), .d (.int many), .d (.tuple (dI T))] S) fun v S' => v = .d (.bool (shwB n (cK n (adjM W.1 W.2) true) many T)) ∧ S' = S by
      obtain ⟨v, S', e, rfl, rfl⟩ := z.ex
      exact e
    refine wp_fn rfl ?_
    have fn : ∀ (ρ : Envi) (U : Sto), evFn "width_cost" ρ U = .ok (.o "width_cost") U := fun _ _ => rfl
    simp only [y_shows_width, List.map_cons, List.map_nil, List.replicate, List.cons_append, List.nil_append, e_sRt, e_Call, e_aCons, e_aNil, e_V, List.getElem?_cons_zero, List.getElem?_cons_succ, bind_ok, th_d, fn, tho, e, wp_ok]
    exact wp_out_d ⟨rfl, by simp⟩
  | false =>
    have e := shows_by_eq (nm := "spread_cost") (m := m_spread_cost) (c := cK n (adjM W.1 W.2) false) (FT := [("spread_cost", m_spread_cost), ("width_cost", m_width_cost)]) rfl (by first | rfl | simp [List.lookup]) h hn (costB h hn) many tl S
    rw [e_CallV (nm := "shows_spread") (m := m_shows_spread) (by rw [hi]; rfl) (by first | rfl | simp [List.lookup]), e_Call, hf, bind_ok]
    suffices z : wp (m_shows_spread [.d (pW W), .d (.int many), .d (.tuple (dI T))] S) fun v S' => v = .d (.bool (shwB n (cK n (adjM W.1 W.2) false) many T)) ∧ S' = S by
      obtain ⟨v, S', e, rfl, rfl⟩ := z.ex
      exact e
    refine wp_fn rfl ?_
    have fn : ∀ (ρ : Envi) (U : Sto), evFn "spread_cost" ρ U = .ok (.o "spread_cost") U := fun _ _ => rfl
    simp only [y_shows_spread, List.map_cons, List.map_nil, List.replicate, List.cons_append, List.nil_append, e_sRt, e_Call, e_aCons, e_aNil, e_V, List.getElem?_cons_zero, List.getElem?_cons_succ, bind_ok, th_d, fn, tho, e, wp_ok]
    exact wp_out_d ⟨rfl, by simp⟩
theorem set_get {S : Sto} {i : Nat} {k : Cell} (h : S[i]? = some k) : S.set i k = S := by
  refine List.ext_getElem? fun j => ?_
  by_cases e : i = j
  · subst e
    rw [List.getElem?_set_self (st_lt h), h]
  · rw [List.getElem?_set_ne e]
theorem e_Pick {f : SA} {g : Sx} {ρ : Envi} {S : Sto} : evPick f g ρ S = (f ρ S).bind fun vs S1 => if vs.length ≤ 1000 then (g ρ S1).bind fun v S2 => match v.th with
  | .d (.int i) => match L2.atI vs i with
    | some (.o nm) => .ok (.o nm) S2
    | _ => .no
  | _ => .no
  else .no := (rfl)
end
end Z
set_option Elab.async false
set_option linter.all false
set_option maxRecDepth 100000
set_option maxHeartbeats 1000000
/-! k28: things that are no tables. -/
namespace Z
open PySem PySem.Spec PyProof.Rows L2 MV
local macro_rules | `(tactic| simp_arith [$ls,*]) => `(tactic| simp only [e_V, e_K, e_2, e_tst, e_bAnd, e_bOr, e_bNot, e_And, e_Or, e_Not, e_If, e_Un, e_Chain, e_aNil, e_aCons, e_Tup, e_Lst, datas_nil, datas_d, e_Call, e_sNil, e_sBk, e_sCt, e_sEx, e_sRt, e_sRtN, e_sIf, e_sSet, e_sCell, e_sAsg, e_sPar, e_sPar3, e_sMul, e_setAll, e_setAll0, e_aCell, e_sPut, e_sAug, e_Isi, e_oNo, e_oYes, e_Sl, go_name, go_tup, goL_nil, goL_cons, go_P, go_W, e_bYes, th_d, th_c, th_z, th_f, th_fd, data_lst, data_dic, bind_ok, wp_ok, if_true, if_false, ite_true, ite_false, decide_true, decide_false, Bool.not_true, Bool.not_false, Bool.false_eq_true, Bool.true_eq_false, List.getElem?_cons_zero, List.getElem?_cons_succ, List.set_cons_zero, List.set_cons_succ, List.map_cons, List.map_nil, List.replicate, List.cons_append, List.nil_append, Option.map_some, List.length_cons, List.length_nil, Nat.reduceAdd, Nat.reduceSub, Nat.reduceLeDiff, Nat.zero_le, Nat.zero_add, o_sub, o_add, o_lt, o_le, o_gt, o_ge, o_eqI, o_neI, o_eqS, o_neS, g_lenT, g_lenL, g_lenZ, g_tupT, g_tupL, g_listT, g_listL, g_intB, g_intI, g_min2, g_max2, e_Dic0, e_dNil, e_dCons, BEq.rfl, $ls,*])
local macro_rules | `(tactic| simp_all_arith [$ls,*]) => `(tactic| (refine wp_seq fun K kn kr => ?_; simp_arith [$ls,*]; (first | refine kn _ _ ?_ | refine kr _ _ ?_); clear kn kr K))
theorem str_int {i : Int} (h : 0 ≤ i ∧ i ≤ 1000) (S : Sto) : gStr [.d (.int i)] S = .ok (.d (.str (PyData.int i).shown)) S := by
  have t := (txt_int (i := i) (by omega)).fits (by decide)
  have c : (PyData.int i).canLay0 = true ∧ (PyData.int i).showable = true ∧ (PyData.int i).shown.length ≤ sizeLine ∧ (PyData.int i).depth ≤ 64 ∧ ∀ x, PyData.int i ≠ .str x := ⟨by simp [PyData.canLay0], t.1, t.2, by simp [PyData.depth], fun x e => by cases e⟩
  unfold gStr
  dsimp only
  rw [asD_d]
  dsimp only
  rw [if_pos c]
/-- a thing that is no table of k numbers -/
def Bad (k : Nat) (x : PyData) : Prop := numsB (k : Int) x = false ∧ ∀ ds, x = .tuple ds → ds.length ≤ 1000
theorem bad_of {k : Nat} {x : PyData} (h : ∀ ds, x ≠ .tuple ds) : Bad k x := by
  refine ⟨?_, fun ds e => absurd e (h ds)⟩
  cases x with
  | tuple ds => exact absurd rfl (h ds)
  | _ => rfl
theorem bad_len {k : Nat} {ds : List PyData} (h : ds.length ≠ k) (l : ds.length ≤ 1000) : Bad k (.tuple ds) := ⟨by rw [numsB_tup, decide_eq_false (by omega)]; rfl, fun es e => by cases e; exact l⟩
theorem bad_in {k : Nat} {ds : List PyData} {y : PyData} (h : y ∈ ds) (hy : isI y = false) (l : ds.length ≤ 1000) : Bad k (.tuple ds) := ⟨by
  rw [numsB_tup]
  have : ds.all isI = false := by
    rw [Bool.eq_false_iff]
    intro al
    rw [List.all_eq_true.mp al y h] at hy
    cases hy
  rw [this, Bool.and_false], fun es e => by cases e; exact l⟩
theorem odd_ex {S : Sto} {i : Nat} {l : List PyData} {T : List Int} (hn : S[i]? = some (.lst l)) (hl : HP l) (h0 : T ≠ []) (h1 : T.length ≤ 512) (hT : ∀ v ∈ T, 0 ≤ v ∧ v ≤ 100) :
    ∃ l' x, m_l_odd [.c i, .d (.tuple (dI T))] S = .ok (.d x) (S.set i (.lst l')) ∧ HP l' ∧ Bad T.length x := by
  have hz := hzZ
  have hlt := st_lt hn
  have bp : 0 < T.length := List.length_pos_iff.mpr h0
  have dl : (dI T).length = T.length := List.length_map _
  suffices z : wp (m_l_odd [.c i, .d (.tuple (dI T))] S) fun v S' => ∃ l' x, v = .d x ∧ S' = S.set i (.lst l') ∧ HP l' ∧ Bad T.length x by
    obtain ⟨v, S', e, l', x, rfl, rfl, h2, h3⟩ := z.ex
    exact ⟨l', x, e, h2, h3⟩
  refine wp_fn rfl ?_
  simp only [List.map_cons, List.map_nil, List.replicate, List.cons_append, List.nil_append]
  obtain ⟨l1, a, e1, hl1, a0, a1⟩ := take_ex hn hl (m := 7) (by decide) (by decide)
  obtain ⟨l2, b, e2, hl2, b0, b1⟩ := take_ex (st_upd (k' := .lst l1) hn) hl1 (m := (T.length : Nat)) (by omega) (by omega)
  rw [List.set_set] at e2
  obtain ⟨at', rfl⟩ : ∃ k : Nat, b = (k : Int) := ⟨b.toNat, by omega⟩
  have al : at' < T.length := by omega
  simp_all_arith [e1, e2, dl]
  generalize hU : S.set i (.lst l2) = U
  have ix := ixTI al U
  have vm : T.getD at' 0 ∈ T := by
    rw [List.getD_eq_getElem?_getD, List.getElem?_eq_getElem al]
    exact List.getElem_mem _
  have vb := hT _ vm
  generalize T.getD at' 0 = v at *
  simp_all_arith [ix]
  have ss := str_int (i := v) (by omega) U
  refine wp_seqN fun K kn => ?_
  have pd : putAll [] [(Sum.inl v, PyData.int v)] = [(.int v, .int v)] := rfl
  simp_arith [ss, kOf, pd, e_Dic]
  refine kn _ _ ?_
  clear kn K
  have hnU : U[i]? = some (.lst l2) := by rw [← hU]; exact st_upd hn
  obtain ⟨l3, y, e3, hl3, ym⟩ := pick_eq (ds := [.bool (decide (0 < v)), .none, .str (PyData.int v).shown, .tuple [.int v], .list [.int v], .dict [(.int v, .int v)], .str (Str.ofString ""), .bool true, .bool false, .tuple []]) hnU hl2 (by simp) (by simp)
  have hy : isI y = false := by
    simp only [List.mem_cons, List.not_mem_nil, or_false] at ym
    rcases ym with rfl | rfl | rfl | rfl | rfl | rfl | rfl | rfl | rfl | rfl <;> rfl
  clear ym
  simp_all_arith [e3]
  have hU2 : U.set i (.lst l3) = S.set i (.lst l3) := by rw [← hU, List.set_set]
  rw [hU2]
  have fin : ∀ x, Bad T.length x → ∀ v S1, v = Val.d x → S1 = S.set i (.lst l3) → wp (out S.length S1 v) fun v S' => ∃ l' x, v = Val.d x ∧ S' = S.set i (.lst l') ∧ HP l' ∧ Bad T.length x := by
    rintro x bx _ _ rfl rfl
    refine wp_out_d ?_
    exact ⟨l3, x, rfl, by rw [show S.length = (S.set i (.lst l3)).length by simp, List.take_length], hl3, bx⟩
  generalize S.set i (.lst l3) = V at *
  have at0 : (0 : Int) ≤ (at' : Int) := by omega
  have at1 : (0 : Int) ≤ (at' : Int) + 1 := by omega
  have n0 : ((at' : Nat) : Int).toNat = at' := by omega
  have n1 : ((at' : Nat) : Int) + 1 = ((at' + 1 : Nat) : Int) := by omega
  have n2 : (((at' + 1 : Nat) : Int)).toNat = at' + 1 := by omega
  have c1 := cut_to (ds := dI T) at0
  have c2 := cut_from (ds := dI T) at1
  have c3 := cut_to (ds := dI T) at1
  have c4 := cut_from (ds := dI T) at0
  rw [n0] at c1 c4
  rw [n1, n2] at c2 c3
  have len1 : ((dI T).take at').length = at' := by rw [List.length_take, dl]; omega
  have len2 : ((dI T).drop (at' + 1)).length = T.length - (at' + 1) := by rw [List.length_drop, dl]
  have len3 : ((dI T).take (at' + 1)).length = at' + 1 := by rw [List.length_take, dl]; omega
  have len4 : ((dI T).drop at').length = T.length - at' := by rw [List.length_drop, dl]
  have ad : ∀ ds es : List PyData, ds.length + es.length ≤ 1000 → gAdd (.d (.tuple ds)) (.d (.tuple es)) V = .ok (.d (.tuple (ds ++ es))) V := fun ds es h => o_addT (by omega)
  have ad1 := ad ((dI T).take at') ((dI T).drop (at' + 1)) (by omega)
  have ad2 := ad ((dI T).take (at' + 1)) ((dI T).drop at') (by omega)
  have ad3 := ad ((dI T).take at') [y] (by rw [len1, List.length_singleton]; omega)
  have ad4 := ad ((dI T).take at' ++ [y]) ((dI T).drop (at' + 1)) (by rw [List.length_append, len1, List.length_singleton]; omega)
  refine wp_seq fun K kn kr => ?_
  by_cases q0 : a = 0
  · subst q0
    simp_arith [o_slT, n1, c1, c2, ad1]
    exact kr _ _ (fin _ (bad_len (by rw [List.length_append, len1, len2]; omega) (by rw [List.length_append, len1, len2]; omega)) _ _ rfl rfl)
  have b0' : (a == 0) = false := by rw [beq_eq_false_iff_ne]; exact q0
  simp_arith [b0']
  refine kn _ _ ?_
  clear kn kr K
  refine wp_seq fun K kn kr => ?_
  by_cases q1 : a = 1
  · subst q1
    simp_arith [o_slT, n1, c3, c4, ad2]
    exact kr _ _ (fin _ (bad_len (by rw [List.length_append, len3, len4]; omega) (by rw [List.length_append, len3, len4]; omega)) _ _ rfl rfl)
  have b1' : (a == 1) = false := by rw [beq_eq_false_iff_ne]; exact q1
  simp_arith [b1']
  refine kn _ _ ?_
  clear kn kr K
  refine wp_seq fun K kn kr => ?_
  by_cases q2 : a < 5
  · simp_arith [decide_eq_true q2, o_slT, n1, c1, c2, ad3, ad4]
    exact kr _ _ (fin _ (bad_in (y := y) (by simp) hy (by rw [List.length_append, List.length_append, len1, len2, List.length_singleton]; omega)) _ _ rfl rfl)
  simp_arith [decide_eq_false q2]
  refine kn _ _ ?_
  clear kn kr K
  have : a = 5 ∨ a = 6 := by omega
  rcases this with rfl | rfl
  · have i5 : atI [PyData.list (dI T), .tuple [.tuple (dI T)]] (5 - 5) = some (.list (dI T)) := rfl
    simp_arith [o_ixL, i5]
    exact fin _ (bad_of (fun ds e => by cases e)) _ _ rfl rfl
  · have i6 : atI [PyData.list (dI T), .tuple [.tuple (dI T)]] (6 - 5) = some (.tuple [.tuple (dI T)]) := rfl
    simp_arith [o_ixL, i6]
    exact fin _ (bad_in (y := .tuple (dI T)) (by simp) rfl (by simp)) _ _ rfl rfl
end Z
set_option Elab.async false
set_option linter.all false
set_option maxRecDepth 100000
set_option maxHeartbeats 1000000
namespace Z
open PySem PySem.Spec PyProof.Rows L2 MV
local macro_rules | `(tactic| simp_arith [$ls,*]) => `(tactic| simp only [e_V, e_K, e_2, e_tst, e_bAnd, e_bOr, e_bNot, e_And, e_Or, e_Not, e_If, e_Un, e_Chain, e_aNil, e_aCons, e_Tup, e_Lst, datas_nil, datas_d, e_Call, e_sNil, e_sBk, e_sCt, e_sEx, e_sRt, e_sRtN, e_sIf, e_sSet, e_sCell, e_sAsg, e_sPar, e_sPar3, e_sMul, e_setAll, e_setAll0, e_aCell, e_sPut, e_sAug, e_Isi, e_oNo, e_oYes, e_Sl, go_name, go_tup, goL_nil, goL_cons, go_P, go_W, e_bYes, th_d, th_c, th_z, th_f, th_fd, data_lst, data_dic, bind_ok, wp_ok, if_true, if_false, ite_true, ite_false, decide_true, decide_false, Bool.not_true, Bool.not_false, Bool.false_eq_true, Bool.true_eq_false, List.getElem?_cons_zero, List.getElem?_cons_succ, List.set_cons_zero, List.set_cons_succ, List.map_cons, List.map_nil, List.replicate, List.cons_append, List.nil_append, Option.map_some, List.length_cons, List.length_nil, Nat.reduceAdd, Nat.reduceSub, Nat.reduceLeDiff, Nat.zero_le, Nat.zero_add, o_sub, o_add, o_lt, o_le, o_gt, o_ge, o_eqI, o_neI, o_eqS, o_neS, g_lenT, g_lenL, g_lenZ, g_tupT, g_tupL, g_listT, g_listL, g_intB, g_intI, g_min2, g_max2, e_Dic0, e_dNil, e_dCons, BEq.rfl, $ls,*])
local macro_rules | `(tactic| simp_all_arith [$ls,*]) => `(tactic| (refine wp_seq fun K kn kr => ?_; simp_arith [$ls,*]; (first | refine kn _ _ ?_ | refine kr _ _ ?_); clear kn kr K))
section
variable {n : Nat} {W : Web}
theorem shows_bad (h : ZW n W) (hn : n ≤ 9) (w : Bool) (many : Int) {x : PyData} (bx : Bad (2 ^ n) x) (i : Nat) {ρ : Envi} {f : SA} {S : Sto} (hi : ρ[i]? = some (some (.o (if w = true then "shows_width" else "shows_spread")))) (hf : f ρ S = .ok [.d (pW W), .d (.int many), .d x] S) :
    evCallV i [("shows_spread", m_shows_spread), ("shows_width", m_shows_width)] f ρ S = .ok (.d (.bool false)) S := by
  have tho : ∀ x : Str, (Val.o x).th = .o x := fun _ => rfl
  cases w with
  | true =>
    have e := shows_no (nm := "width_cost") h hn bx.2 bx.1 many S
    rw [e_CallV (nm := "shows_width") (m := m_shows_width) (by rw [hi]; rfl) (by first | rfl | simp [List.lookup]), e_Call, hf, bind_ok]
    suffices z : wp (m_shows_width [.d (pW W), .d (.int many), .d x] S) fun v S' => v = .d (.bool false) ∧ S' = S by
      obtain ⟨v, S', e, rfl, rfl⟩ := z.ex
      exact e
    refine wp_fn rfl ?_
    have fn : ∀ (ρ : Envi) (U : Sto), evFn "width_cost" ρ U = .ok (.o "width_cost") U := fun _ _ => rfl
    simp only [y_shows_width, List.map_cons, List.map_nil, List.replicate, List.cons_append, List.nil_append, e_sRt, e_Call, e_aCons, e_aNil, e_V, List.getElem?_cons_zero, List.getElem?_cons_succ, bind_ok, th_d, fn, tho, e, wp_ok]
    exact wp_out_d ⟨rfl, by simp⟩
  | false =>
    have e := shows_no (nm := "spread_cost") h hn bx.2 bx.1 many S
    rw [e_CallV (nm := "shows_spread") (m := m_shows_spread) (by rw [hi]; rfl) (by first | rfl | simp [List.lookup]), e_Call, hf, bind_ok]
    suffices z : wp (m_shows_spread [.d (pW W), .d (.int many), .d x] S) fun v S' => v = .d (.bool false) ∧ S' = S by
      obtain ⟨v, S', e, rfl, rfl⟩ := z.ex
      exact e
    refine wp_fn rfl ?_
    have fn : ∀ (ρ : Envi) (U : Sto), evFn "spread_cost" ρ U = .ok (.o "spread_cost") U := fun _ _ => rfl
    simp only [y_shows_spread, List.map_cons, List.map_nil, List.replicate, List.cons_append, List.nil_append, e_sRt, e_Call, e_aCons, e_aNil, e_V, List.getElem?_cons_zero, List.getElem?_cons_succ, bind_ok, th_d, fn, tho, e, wp_ok]
    exact wp_out_d ⟨rfl, by simp⟩
theorem right_eq (h : ZW n W) (hn : n ≤ 5) (w : Bool) {S : Sto} {i : Nat} {l : List PyData} (hi : S[i]? = some (.lst l)) (hl : HP l) : ∃ l', m_l_right [.c i, .d (pW W), .d (.bool w)] S = .ok (.d (.bool true)) (S.set i (.lst l')) ∧ HP l' := by
  have hz := hzZ
  have p9 := pow9 (n := n) (by omega)
  have p5 : 2 ^ n ≤ 32 := (Nat.pow_le_pow_right (by decide) hn : 2 ^ n ≤ 2 ^ 5)
  have pp : 0 < 2 ^ n := Nat.pow_pos (by decide)
  suffices z : wp (m_l_right [.c i, .d (pW W), .d (.bool w)] S) fun v S' => ∃ l', v = .d (.bool true) ∧ S' = S.set i (.lst l') ∧ HP l' by
    obtain ⟨v, S', e, l', rfl, rfl, h2⟩ := z.ex
    exact ⟨l', e, h2⟩
  have cw := l_costs_eq h (by omega) w S
  have gw := greatest_eq (n := n) (by omega) (adjM W.1 W.2) w S
  have bb : ∀ v ∈ tI n (adjM W.1 W.2) w, 0 ≤ v ∧ v ≤ 100 := fun v hv => by
    obtain ⟨k, hk, rfl⟩ := List.mem_map.mp hv
    obtain ⟨j, hj, rfl⟩ := tabs_mem hk
    have := tab_bound (n := n) (c := cK n (adjM W.1 W.2) w) (b := n) (fun _ _ => cK_le) j (by omega)
    omega
  have sb := fun many => shw_best (n := n) (adj := adjM W.1 W.2) (w := w) (many := many)
  have tl := tI_len (n := n) (adjM W.1 W.2) w
  have dzI : dZ (tabs n (cK n (adjM W.1 W.2) w) (2 ^ n - 1)) = dI (tI n (adjM W.1 W.2) w) := dZ_I _
  have iz : ∀ U : Sto, gIx (.d (.tuple (dI (tI n (adjM W.1 W.2) w)))) (.d (.int (-1))) U = .ok (.d (.int ((tab n (cK n (adjM W.1 W.2) w) (2 ^ n - 1) : Nat) : Int))) U := fun U => by
    have z := ix_endL (T := tI n (adjM W.1 W.2) w) (k := 2 ^ n - 1) (by omega) U
    rw [o_ixL, tI_getD (Nat.le_refl _)] at z
    rw [o_ixT]
    exact z
  have she := fun (many : Int) (T : List Int) (tl : T.length = 2 ^ n) (ρ : Envi) (f : SA) (U : Sto) hi hf => shows_eq h (by omega) w many tl 4 (ρ := ρ) (f := f) (S := U) hi hf
  have shb := fun (many : Int) (x : PyData) (bx : Bad (2 ^ n) x) (ρ : Envi) (f : SA) (U : Sto) hi hf => shows_bad h (by omega) w many bx 4 (ρ := ρ) (f := f) (S := U) hi hf
  rw [dzI] at gw
  generalize tab n (cK n (adjM W.1 W.2) w) (2 ^ n - 1) = v at *
  generalize tI n (adjM W.1 W.2) w = T at *
  generalize ((List.range (2 ^ n)).map fun x => PyData.dict (dK (dicK n (adjM W.1 W.2) w x))) = C at *
  generalize (cK n (adjM W.1 W.2) w) = cc at *
  have dl : (dI T).length = T.length := List.length_map _
  have tne : T ≠ [] := by intro q; subst q; simp at tl; omega
  refine wp_fn rfl ?_
  simp only [List.map_cons, List.map_nil, List.replicate, List.cons_append, List.nil_append]
  simp_all_arith [cw, gw]
  refine wp_seqN fun K kn => ?_
  have tho : ∀ x : Str, (Val.o x).th = .o x := fun _ => rfl
  have pk : ∀ ρ : Envi, ρ[2]? = some (some (.d (.bool w))) → evPick (aCons (evFn "shows_spread") (aCons (evFn "shows_width") (aNil))) (evCall (g1 fInt) (aCons (evV 2) (aNil))) ρ S = .ok (.o (if w = true then "shows_width" else "shows_spread")) S := fun ρ h2 => by
    have f1 : ∀ (ρ : Envi) (U : Sto), evFn "shows_spread" ρ U = .ok (.o "shows_spread") U := fun _ _ => rfl
    have f2 : ∀ (ρ : Envi) (U : Sto), evFn "shows_width" ρ U = .ok (.o "shows_width") U := fun _ _ => rfl
    rw [e_Pick]
    simp only [e_aCons, e_aNil, f1, f2, tho, bind_ok, List.length_cons, List.length_nil, Nat.reduceAdd, Nat.reduceLeDiff, if_true, e_Call, e_V, h2, th_d, g_intB]
    cases w <;> rfl
  rw [e_sSet, pk _ rfl]
  simp only [bind_ok, tho, wp_ok, List.set_cons_zero, List.set_cons_succ]
  refine kn _ _ ?_
  clear kn K
  refine wp_seqN fun K kn => ?_
  rw [e_sIf, e_tst, e_2, she v T tl _ _ _ rfl (by
    simp_arith [iz])]
  have nb : ∀ (a b : Bool) (U : Sto), gNotB (.d (.bool a)) (.d (.bool b)) U = .ok (.d (.bool (!(a == b)))) U := fun a b U => by
    cases a <;> cases b <;> rfl
  have d1 : decide ((v : Int) ≤ (v : Int)) = true := decide_eq_true (Int.le_refl _)
  simp_arith [sb, d1, nb, beq_self_eq_true]
  refine kn _ _ ?_
  clear kn K
  have ad0 : gAdd (.d (.tuple (dI T))) (.d (.tuple [.int 0])) S = .ok (.d (.tuple (dI T ++ [.int 0]))) S := o_addT (by rw [dl, List.length_singleton]; omega)
  simp_all_arith [ad0]
  have ml : ∀ U : Sto, gMulT (.d (.tuple [.tuple []])) (.d (.int (T.length : Nat))) U = .ok (.d (.tuple (List.replicate T.length (.tuple [])))) U := fun U => by
    have e : gMulT (.d (.tuple [.tuple []])) (.d (.int (T.length : Nat))) U = .ok (.d (.tuple (List.replicate ((T.length : Nat) : Int).toNat [PyData.tuple []]).flatten)) U := if_pos ⟨by simp, by omega, by omega, by simp⟩
    have fl : ∀ k : Nat, (List.replicate k [PyData.tuple []]).flatten = List.replicate k (PyData.tuple []) := fun k => by
      induction k with
      | zero => rfl
      | succ k ih => rw [List.replicate_succ, List.flatten_cons, ih, List.replicate_succ]; rfl
    rw [e, Int.toNat_natCast, fl]
  obtain ⟨some0, hs0⟩ : ∃ L : List PyData, [PyData.none, .bool true, .int 0, .str (Str.ofString ""), .str (Str.ofString "table"), .list [], .dict [], .tuple [], .tuple (dI T ++ [.int 0]), .tuple [.tuple (dI T), .tuple (dI T)]] = L := ⟨_, rfl⟩
  have sl0 : some0.length = 10 := by rw [← hs0]; rfl
  have ad1 : ∀ U : Sto, gAdd (.d (.list some0)) (.d (.list [.int (v : Nat), .tuple (List.replicate T.length (.tuple []))])) U = .ok (.f (.lst (some0 ++ [.int (v : Nat), .tuple (List.replicate T.length (.tuple []))]))) U := fun U => o_addL rfl rfl (by rw [sl0]; simp; omega)
  rw [hs0]
  simp_all_arith [iz, dl, ml, ad1]
  obtain ⟨some1, hs1⟩ : ∃ L : List PyData, some0 ++ [PyData.int (v : Nat), .tuple (List.replicate T.length (.tuple []))] = L := ⟨_, rfl⟩
  have bad1 : ∀ x ∈ some1, Bad (2 ^ n) x := fun x hx => by
    rw [← hs1, ← hs0] at hx
    simp only [List.mem_append, List.mem_cons, List.not_mem_nil, or_false] at hx
    rcases hx with (rfl | rfl | rfl | rfl | rfl | rfl | rfl | rfl | rfl | rfl) | rfl | rfl
    · exact bad_of fun ds e => by cases e
    · exact bad_of fun ds e => by cases e
    · exact bad_of fun ds e => by cases e
    · exact bad_of fun ds e => by cases e
    · exact bad_of fun ds e => by cases e
    · exact bad_of fun ds e => by cases e
    · exact bad_of fun ds e => by cases e
    · exact bad_len (by simp; omega) (by simp)
    · exact bad_len (by simp; omega) (by simp; omega)
    · exact bad_in (y := .tuple (dI T)) (by simp) rfl (by simp)
    · exact bad_of fun ds e => by cases e
    · exact bad_in (y := .tuple []) (List.mem_replicate.mpr ⟨by omega, rfl⟩) rfl (by simp; omega)
  have sl1 : some1.length = 12 := by rw [← hs1, List.length_append, sl0]; rfl
  rw [hs1]
  refine wp_seqN fun K kn => ?_
  have hil := st_lt hi
  have r8 : gRange1 [.d (.int 8)] = some ⟨iota 0 8, []⟩ := e_range1 (by decide) (by decide)
  rw [e_sFo, e_iSeq, e_2, e_V]
  simp only [List.getElem?_cons_zero, List.getElem?_cons_succ, bind_ok, th_d]
  rw [wp_bind, wp_bind, wp_bind]
  refine wp_compK (fun (pre : List Nat) acc U => ∃ l', HP l' ∧ U = S.set i (.lst l') ∧ acc.length = pre.length ∧ ∀ x ∈ acc, Bad (2 ^ n) x) (List.range 8) (fun k => .int (0 + (k : Int))) (s := ⟨iota 0 8, []⟩) (S1 := S) (by
    simp_arith [e_iBy, r8]) rfl (by simp; omega) (fun _ _ _ _ => gok_nil) ⟨l, hl, (set_get hi).symm, rfl, (fun _ h => nomatch h)⟩ ?_ ?_
  · rintro pre k post acc U e ⟨l', hl', rfl, al, ab⟩
    obtain ⟨l2, x, eo, hl2, bx⟩ := odd_ex (S := S.set i (.lst l')) (i := i) (T := T) (st_upd hi) hl' tne (by omega) bb
    rw [List.set_set] at eo
    rw [tl] at bx
    refine ⟨_, by simp [wipeE]; rfl, fun K1 kt kf => ?_⟩
    simp_arith [e_bYes]
    refine kt _ fun K2 k2 => ?_
    simp_arith [eo]
    refine k2 _ _ x rfl ⟨l2, hl2, rfl, by simp [al], fun y hy => ?_⟩
    rcases List.mem_append.mp hy with hy | hy
    · exact ab y hy
    · rw [List.mem_singleton.mp hy]; exact bx
  · rintro acc U ⟨l1, hl1, rfl, al, ab⟩
    have al : acc.length = 8 := by rw [al]; rfl
    have ad2 : gAdd (.d (.list some1)) (.d (.list acc)) (S.set i (.lst l1)) = .ok (.f (.lst (some1 ++ acc))) (S.set i (.lst l1)) := o_addL rfl rfl (by omega)
    simp only [th_f, data_lst, ad2, wp_ok, th_d, seq_l]
    have bad2 : ∀ x ∈ some1 ++ acc, Bad (2 ^ n) x := fun x hx => (List.mem_append.mp hx).elim (bad1 x) (ab x)
    refine wp_goK (fun (_ : List PyData) ρ U => ∃ l' o6 o7, HP l' ∧ ρ = [some (.c i), some (.d (pW W)), some (.d (.bool w)), some (.d (.tuple (dI T))), some (.o (if w = true then "shows_width" else "shows_spread")), some (.d (.list some1)), o6, o7, none] ∧ U = S.set i (.lst l')) (some1 ++ acc) id (by simp) (fun _ _ _ _ => gok_nil) ⟨l1, none, none, hl1, rfl, rfl⟩ ?_ ?_
    · rintro pre x post ρ U e ⟨l', o6, o7, hl', rfl, rfl⟩
      have bx := bad2 x (by rw [e]; simp)
      refine ⟨_, rfl, fun K1 k1 kr1 => ?_⟩
      have pw : ∀ U : Sto, gPow (.d (.int 10)) (.d (.int 20)) U = .ok (.d (.int (10 ^ 20))) U := fun U => pow_ok (i := 10) (n := 4) (k := 20) (by decide) (by decide) (by decide) U
      obtain ⟨l2, y, ep, hl2, ym⟩ := pick_eq (S := S.set i (.lst l')) (i := i) (ds := dI [0, -1, -(10 ^ 20), (v : Nat)]) (st_upd hi) hl' (by simp) (by simp)
      rw [List.set_set] at ep
      obtain ⟨many, _, rfl⟩ := List.mem_map.mp ym
      have ep : m_l_pick [.c i, .d (.list [.int 0, .int (-1), .int (-(10 ^ 20)), .int (v : Nat)])] (S.set i (.lst l')) = .ok (.d (.int many)) (S.set i (.lst l2)) := ep
      simp only [List.set_cons_zero, List.set_cons_succ, id]
      simp_all_arith [pw, iz, ep]
      rw [e_sIf, e_tst, e_2, shb many x bx _ _ _ rfl (by simp_arith [])]
      simp_arith [nb, beq_self_eq_true]
      exact k1 _ _ ⟨l2, _, _, hl2, rfl, rfl⟩
    · rintro ρ U ⟨l', o6, o7, hl', rfl, rfl⟩
      refine kn _ _ ?_
      rw [e_sRt, e_2, she v T tl _ _ _ rfl (by simp_arith [iz])]
      have ib : ∀ (a b : Bool) (U : Sto), gIsB (.d (.bool a)) (.d (.bool b)) U = .ok (.d (.bool (a == b))) U := fun a b U => by
        cases a <;> cases b <;> rfl
      simp_arith [sb, d1, ib, beq_self_eq_true]
      refine wp_out_d ?_
      exact ⟨l', rfl, by rw [show S.length = (S.set i (.lst l')).length by simp, List.take_length], hl'⟩
end
theorem law_true (ns : List Int) (hl : ns.length ≤ 63) : ∃ S, m_law [.z (dI ns)] [] = .ok (.d (.bool true)) S := by
  have hz := hzZ
  suffices h : wp (m_law [.z (dI ns)] []) fun v _ => v = .d (.bool true) by
    obtain ⟨v, S, e, rfl⟩ := h.ex
    exact ⟨S, e⟩
  refine wp_fn rfl ?_
  simp only [List.map_cons, List.map_nil, List.replicate, List.cons_append, List.nil_append]
  obtain ⟨l0, e0, hl0⟩ := pot_ex ns hl []
  simp_all_arith [e0, List.length_nil, List.nil_append]
  have set0 : ∀ a b : List PyData, ([Cell.lst a] : Sto).set 0 (.lst b) = [.lst b] := fun _ _ => rfl
  have r2 : gRange1 [.d (.int 2)] = some ⟨iota 0 2, []⟩ := e_range1 (by decide) (by decide)
  refine wp_seqN fun K kn => ?_
  refine wp_forK (fun (pre : List Nat) ρ T => ∃ l o2 o3, HP l ∧ ρ = [some (.z (dI ns)), some (.c 0), o2, o3] ∧ T = [Cell.lst l]) (List.range 2) (fun k => .int (0 + (k : Int))) (s := ⟨iota 0 2, []⟩) (S1 := [Cell.lst l0]) (by
    simp_arith [e_iBy, r2]) rfl (fun _ _ _ _ => gok_nil) ⟨l0, none, none, hl0, rfl, rfl⟩ ?_ ?_
  · rintro pre k post ρ T e ⟨l, o2, o3, hl, rfl, rfl⟩
    refine ⟨_, rfl, fun K1 k1 kr1 => ?_⟩
    obtain ⟨l3, r, e3, hl3, c0, c1⟩ := take_ex (S := [Cell.lst l]) (n := 0) rfl hl (m := 6) (by decide) (by decide)
    rw [set0] at e3
    obtain ⟨n, rfl⟩ : ∃ n : Nat, r = (n : Int) := ⟨r.toNat, by omega⟩
    obtain ⟨W, l4, e4, hl4, zw⟩ := web_ex (S := [Cell.lst l3]) (i := 0) (many := n) rfl hl3 (by omega)
    rw [set0] at e4
    obtain ⟨l5, e5, hl5⟩ := right_eq zw (by omega) true (S := [Cell.lst l4]) (i := 0) rfl hl4
    rw [set0] at e5
    obtain ⟨l6, e6, hl6⟩ := right_eq zw (by omega) false (S := [Cell.lst l5]) (i := 0) rfl hl5
    rw [set0] at e6
    simp only [List.set_cons_zero, List.set_cons_succ]
    simp_all_arith [e3, e4]
    simp_arith [e5, e6]
    exact k1 _ _ ⟨l6, _, _, hl6, rfl, rfl⟩
  · rintro ρ T ⟨l, o2, o3, hl, rfl, rfl⟩
    refine kn _ _ ?_
    simp_arith []
    exact wp_out_d rfl
end Z
set_option Elab.async false
set_option linter.all false
set_option maxRecDepth 100000
set_option maxHeartbeats 4000000
namespace Z
open PySem PySem.Spec PyProof.Rows L2 MV
structure Txt (K : PySem.W.Frag) (mg : Str → Option Value) : Prop where
  b_abs : mg "abs" = none
  b_all : mg "all" = none
  b_bool : mg "bool" = none
  b_int : mg "int" = none
  b_isinstance : mg "isinstance" = none
  b_len : mg "len" = none
  b_list : mg "list" = none
  b_max : mg "max" = none
  b_min : mg "min" = none
  b_range : mg "range" = none
  b_set : mg "set" = none
  b_sorted : mg "sorted" = none
  b_str : mg "str" = none
  b_sum : mg "sum" = none
  b_tuple : mg "tuple" = none
section
variable {P : Program} {w : World} {K : PySem.W.Frag} {mg : Str → Option Value} {base : Heap} {f : Addr} {fd : FuncData}
theorem sc_l_pot : FnScope n_l_pot ["_law_script"] (defScope s_l_pot) := ⟨rfl, rfl, rfl, by decide +kernel, rfl, by decide +kernel, by decide +kernel⟩
theorem c_l_pot (T : Txt K mg) (F : Fun K "_law_pot" "_law_pot" s_l_pot f fd) (hm : mg "_law_pot" = some (.ref f))  : Cal P w K mg base 1 "_law_pot" m_l_pot := by
  have hb := (F.binds (ps := ["_law_script"]) fun _ _ _ _ _ _ us hl => match us, hl with | [_], _ => rfl)
  have hc := @cal_mk P w K mg base "_law_pot" "_law_pot" s_l_pot f fd n_l_pot ["_law_script"] 0 1 y_l_pot F sc_l_pot rfl hm hb
  refine hc fun cdv A outer s H E hr gd => ?_
  have nd := sc_l_pot.nd
  have hu := hu_room hr
  exact ssC (sAsgR (eTup (aC (eInt) (aC (eInt) (aC (eInt) (aN))))) (gT rfl (gsC (gN (i := 2) nd rfl (by first | exact Or.inl rfl | exact Or.inr rfl)) (gsC (gN (i := 3) nd rfl (by first | exact Or.inl rfl | exact Or.inr rfl)) (gsC (gN (i := 4) nd
      rfl (by first | exact Or.inl rfl | exact Or.inr rfl)) (gsN)))))) (ssC (sFor PassesOwn.never rfl (iS (eSl (eV 0) (poN) (poS (eInt)))) (gN (i := 1) nd rfl (by first | exact Or.inl rfl | exact Or.inr rfl)) (ssC (sSetR 4 nd rfl (by first | exact Or.inl rfl | exact Or.inr rfl) (eOp oMod
      (eOp oPow (eOp oAdd (eOp oAdd (eOp oMul (eV 4) (eInt)) (eOp oMod (eV 1) (eInt))) (eInt)) (eInt)) (eInt))) (ss1 (sIfR (bCmp (oGe hu) (eB bAbs rfl T.b_abs
      (by decide +kernel) (aC (eV 1) (aN))) (eOp oPow (eInt) (eInt))) (ssC (sSetR 2 nd rfl (by first | exact Or.inl rfl | exact Or.inr rfl) (eOp oAdd (eV 2) (eOp oMul (eOp oMod (eB bAbs rfl T.b_abs (by decide +kernel)
      (aC (eV 1) (aN))) (eOp oPow (eInt) (eInt))) (eV 3)))) (ss1 (sSetR 3 nd rfl (by first | exact Or.inl rfl | exact Or.inr rfl) (eOp oMul (eV 3) (eOp oPow (eInt) (eInt)))))) (ssN))))) (ss1 (sRet (eLst
      (aC (eV 2) (aC (eV 4) (aC (eInt) (aN))))))))
theorem sc_l_take : FnScope n_l_take ["_law_pot_here", "_law_many"] (defScope s_l_take) := ⟨rfl, rfl, rfl, by decide +kernel, rfl, by decide +kernel, by decide +kernel⟩
theorem c_l_take (T : Txt K mg) (F : Fun K "_law_take" "_law_take" s_l_take f fd) (hm : mg "_law_take" = some (.ref f))  : Cal P w K mg base 1 "_law_take" m_l_take := by
  have hb := (F.binds (ps := ["_law_pot_here", "_law_many"]) fun _ _ _ _ _ _ us hl => match us, hl with | [_, _], _ => rfl)
  have hc := @cal_mk P w K mg base "_law_take" "_law_take" s_l_take f fd n_l_take ["_law_pot_here", "_law_many"] 0 2 y_l_take F sc_l_take rfl hm hb
  refine hc fun cdv A outer s H E hr gd => ?_
  have nd := sc_l_take.nd
  have hu := hu_room hr
  exact ssC (sIfR (bCmp (oGt hu) (eIx hu (eV 0) (eInt)) (eInt)) (ssC (sSetR 2 nd rfl (by first | exact Or.inl rfl | exact Or.inr rfl) (eOp oMod (eIx hu (eV 0) (eInt)) (eV 1))) (ssC (sPutR hu (eV 0) (eInt)
      (eOp oDiv (eIx hu (eV 0) (eInt)) (eV 1))) (ss1 (sRet (eV 2))))) (ssN)) (ssC (sPutR hu (eV 0) (eInt) (eOp oAdd (eIx hu (eV 0) (eInt)) (eInt))) (ssC (sPutR
      hu (eV 0) (eInt) (eOp oMod (eOp oAdd (eOp oAdd (eOp oMul (eIx hu (eV 0) (eInt)) (eInt)) (eOp oMul (eInt) (eIx hu (eV 0) (eInt)))) (eInt)) (eInt))) (ss1
      (sRet (eOp oMod (eOp oDiv (eOp oMod (eOp oPow (eIx hu (eV 0) (eInt)) (eInt)) (eInt)) (eInt)) (eV 1))))))
theorem sc_l_places : FnScope n_l_places ["_law_pot_here", "_law_many"] (defScope s_l_places) := ⟨rfl, rfl, rfl, by decide +kernel, rfl, by decide +kernel, by decide +kernel⟩
theorem c_l_places (T : Txt K mg) (F : Fun K "_law_places" "_law_places" s_l_places f fd) (hm : mg "_law_places" = some (.ref f)) (C_l_take : Cal P w K mg base 1 "_law_take" m_l_take) : Cal P w K mg base 2 "_law_places" m_l_places := by
  have hb := (F.binds (ps := ["_law_pot_here", "_law_many"]) fun _ _ _ _ _ _ us hl => match us, hl with | [_, _], _ => rfl)
  have hc := @cal_mk P w K mg base "_law_places" "_law_places" s_l_places f fd n_l_places ["_law_pot_here", "_law_many"] 1 2 y_l_places F sc_l_places rfl hm hb
  refine hc fun cdv A outer s H E hr gd => ?_
  have nd := sc_l_places.nd
  have hu := hu_room hr
  exact ssC (sSetR 2 nd rfl (by first | exact Or.inl rfl | exact Or.inr rfl) (eCal C_l_take hr gd (by first | decide | omega) rfl (aC (eV 0) (aC (eInt) (aN))))) (ssC (sSetR 3 nd rfl (by first | exact Or.inl rfl | exact Or.inr rfl) (eCal C_l_take hr gd (by first | decide | omega) rfl (aC (eV
      0) (aC (eInt) (aN))))) (ssC (sCellR 4 nd rfl (by first | exact Or.inl rfl | exact Or.inr rfl) (eLst (aN))) (ssC (sFor PassesOwn.never rfl (iR1 rfl T.b_range (aC (eV 1) (aN))) (gN (i := 5) nd rfl
      (by first | exact Or.inl rfl | exact Or.inr rfl)) (ssC (sExpr (eM PySem.F.plainAttrs_list PySem.F.slot_list_append PySem.F.type_list_append mAppend (eV 4) (aC (eV 3) (aN)))) (ss1 (sSetR 3 nd rfl
      (by first | exact Or.inl rfl | exact Or.inr rfl) (eOp oAdd (eOp oAdd (eV 3) (eInt)) (eIx hu (eLst (aC (eInt) (aC (eCal C_l_take hr gd (by first | decide | omega) rfl (aC (eV 0) (aC (eInt) (aN)))) (aC (eCal C_l_take
      hr gd (by first | decide | omega) rfl (aC (eV 0) (aC (eInt) (aN)))) (aN))))) (eV 2))))))) (ss1 (sRet (eV 4))))))
theorem sc_l_pairs : FnScope n_l_pairs ["_law_pot_here", "_law_many"] (defScope s_l_pairs) := ⟨rfl, rfl, rfl, by decide +kernel, rfl, by decide +kernel, by decide +kernel⟩
theorem c_l_pairs (T : Txt K mg) (F : Fun K "_law_pairs" "_law_pairs" s_l_pairs f fd) (hm : mg "_law_pairs" = some (.ref f)) (C_l_take : Cal P w K mg base 1 "_law_take" m_l_take) : Cal P w K mg base 2 "_law_pairs" m_l_pairs := by
  have hb := (F.binds (ps := ["_law_pot_here", "_law_many"]) fun _ _ _ _ _ _ us hl => match us, hl with | [_, _], _ => rfl)
  have hc := @cal_mk P w K mg base "_law_pairs" "_law_pairs" s_l_pairs f fd n_l_pairs ["_law_pot_here", "_law_many"] 1 2 y_l_pairs F sc_l_pairs rfl hm hb
  refine hc fun cdv A outer s H E hr gd => ?_
  have nd := sc_l_pairs.nd
  have hu := hu_room hr
  exact ssC (sSetR 2 nd rfl (by first | exact Or.inl rfl | exact Or.inr rfl) (eCal C_l_take hr gd (by first | decide | omega) rfl (aC (eV 0) (aC (eInt) (aN))))) (ssC (sSetR 3 nd rfl (by first | exact Or.inl rfl | exact Or.inr rfl) (eCal C_l_take hr gd (by first | decide | omega) rfl (aC (eV
      0) (aC (eInt) (aN))))) (ssC (sCellR 4 nd rfl (by first | exact Or.inl rfl | exact Or.inr rfl) (eLst (aN))) (ssC (sIfR (bCmp (oIn hu) (eV 2) (eTup (aC (eInt) (aC (eInt) (aC (eInt) (aN)))))) (ssC
      (sSetR 6 nd rfl (by first | exact Or.inl rfl | exact Or.inr rfl) (eIx hu (eLst (aC (eInt) (aC (eInt) (aC (eInt) (aC (eInt) (aN)))))) (eV 2))) (ss1 (sFor PassesOwn.never rfl (iR1 rfl T.b_range (aC
      (eV 1) (aN))) (gN (i := 7) nd rfl (by first | exact Or.inl rfl | exact Or.inr rfl)) (ss1 (sExpr (eM PySem.F.plainAttrs_list PySem.F.slot_list_extend PySem.F.type_list_extend mExtend (eV 4) (aC
      (eComp (own := [("_law_a", 8)]) rfl nd (iR1 rfl T.b_range (aC (eV 7) (aN))) (blkOk_by (by kernel_rfl)) (by decide) (fun _ _ _ _ _ => gN (i := 8) nd rfl
      (by first | exact Or.inl rfl | exact Or.inr rfl)) (fun _ _ _ _ _ => ts1 (bCmp (oGt hu) (eV 6) (eOp oMul (eInt) (eCal C_l_take hr gd (by first | decide | omega) rfl (aC (eV 0) (aC (eInt) (aN))))))) (fun _ _ _ _ _ =>
      eTup (aC (eV 8) (aC (eV 7) (aN))))) (aN)))))))) (ssN)) (ssC (sIfR (bCmp (oEq hu) (eV 2) (eInt)) (ss1 (sCellLc 4 (own := [("_law_b", 7)]) rfl nd rfl rfl
      (sw_true rfl rfl rfl (by decide +kernel)) (iR2 rfl T.b_range (aC (eInt) (aC (eV 1) (aN)))) (blkOk_by (by kernel_rfl)) (by decide) (fun _ _ _ _ _ => gN
      (i := 7) nd rfl (by first | exact Or.inl rfl | exact Or.inr rfl)) (fun _ _ _ _ _ => tsN) (fun _ _ _ _ _ => eTup (aC (eCal C_l_take hr gd (by first | decide | omega) rfl (aC (eV 0) (aC (eV 7) (aN)))) (aC (eV 7) (aN))))))
      (ssN)) (ssC (sIfR (bPw (wAnd (bCmp (oEq hu) (eV 2) (eInt)) (wAnd1 (bCmp (oGt hu) (eV 1) (eInt))))) (ss1 (sCellR 4 nd rfl (by first | exact Or.inl rfl | exact Or.inr rfl) (eOp oAdd (eComp (own :=
      [("_law_a", 8)]) rfl nd (iR1 rfl T.b_range (aC (eOp oSub (eV 1) (eInt)) (aN))) (blkOk_by (by kernel_rfl)) (by decide) (fun _ _ _ _ _ => gN (i := 8) nd
      rfl (by first | exact Or.inl rfl | exact Or.inr rfl)) (fun _ _ _ _ _ => tsN) (fun _ _ _ _ _ => eTup (aC (eV 8) (aC (eOp oAdd (eV 8) (eInt)) (aN))))) (eLst (aC (eTup (aC (eInt) (aC (eOp oSub (eV
      1) (eInt)) (aN)))) (aN)))))) (ssN)) (ssC (sIfR (bCmp (oEq hu) (eV 2) (eInt)) (ssC (sCellLc 4 (own := [("_law_a", 8)]) rfl nd rfl rfl (sw_true rfl rfl
      rfl (by decide +kernel)) (iR1 rfl T.b_range (aC (eOp oSub (eV 1) (eInt)) (aN))) (blkOk_by (by kernel_rfl)) (by decide) (fun _ _ _ _ _ => gN (i := 8) nd
      rfl (by first | exact Or.inl rfl | exact Or.inr rfl)) (fun _ _ _ _ _ => ts1 (bCmp (oLt hu) (eOp oMod (eV 8) (eInt)) (eInt))) (fun _ _ _ _ _ => eTup (aC (eV 8) (aC (eOp oAdd (eV 8) (eInt)) (aN)))))
      (ss1 (sExpr (eM PySem.F.plainAttrs_list PySem.F.slot_list_extend PySem.F.type_list_extend mExtend (eV 4) (aC (eComp (own := [("_law_a", 8)]) rfl nd (iR1
      rfl T.b_range (aC (eOp oSub (eV 1) (eInt)) (aN))) (blkOk_by (by kernel_rfl)) (by decide) (fun _ _ _ _ _ => gN (i := 8) nd rfl (by first | exact Or.inl rfl | exact Or.inr rfl)) (fun _ _ _ _ _ =>
      tsN) (fun _ _ _ _ _ => eTup (aC (eV 8) (aC (eOp oAdd (eV 8) (eInt)) (aN))))) (aN)))))) (ssN)) (ssC (sFor PassesOwn.never rfl (iR1 rfl T.b_range (aC (eOp
      oMul (eV 3) (eT bInt rfl T.b_int (by decide +kernel) (aC (eAnd (eCmp (oGt hu) (eV 2) (eInt)) (eOne (eCmp (oGt hu) (eV 1) (eInt)))) (aN)))) (aN))) (gN
      (i := 5) nd rfl (by first | exact Or.inl rfl | exact Or.inr rfl)) (ssC (sSetR 7 nd rfl (by first | exact Or.inl rfl | exact Or.inr rfl) (eOp oAdd (eInt) (eCal C_l_take hr gd (by first | decide | omega) rfl (aC (eV 0) (aC (eOp oSub (eV 1) (eInt)) (aN)))))) (ss1
      (sExpr (eM PySem.F.plainAttrs_list PySem.F.slot_list_append PySem.F.type_list_append mAppend (eV 4) (aC (eTup (aC (eCal C_l_take hr gd (by first | decide | omega) rfl (aC (eV
      0) (aC (eV 7) (aN)))) (aC (eV 7) (aN)))) (aN))))))) (ss1 (sRet (eSl (eSorS rfl hu rfl T.b_sorted rfl T.b_set (eV 4)) (poN) (poS (eInt))))))))))))
theorem sc_l_web : FnScope n_l_web ["_law_pot_here", "_law_many"] (defScope s_l_web) := ⟨rfl, rfl, rfl, by decide +kernel, rfl, by decide +kernel, by decide +kernel⟩
theorem c_l_web (T : Txt K mg) (F : Fun K "_law_web" "_law_web" s_l_web f fd) (hm : mg "_law_web" = some (.ref f)) (C_l_places : Cal P w K mg base 2 "_law_places" m_l_places) (C_l_pairs : Cal P w K mg base 2 "_law_pairs" m_l_pairs) : Cal P w K mg base 3 "_law_web" m_l_web := by
  have hb := (F.binds (ps := ["_law_pot_here", "_law_many"]) fun _ _ _ _ _ _ us hl => match us, hl with | [_, _], _ => rfl)
  have hc := @cal_mk P w K mg base "_law_web" "_law_web" s_l_web f fd n_l_web ["_law_pot_here", "_law_many"] 2 2 y_l_web F sc_l_web rfl hm hb
  refine hc fun cdv A outer s H E hr gd => ?_
  have nd := sc_l_web.nd
  have hu := hu_room hr
  exact ssC (sSetR 2 nd rfl (by first | exact Or.inl rfl | exact Or.inr rfl) (eCal C_l_places hr gd (by first | decide | omega) rfl (aC (eV 0) (aC (eV 1) (aN))))) (ssC (sSetLc 3 (own := [("_law_a", 4), ("_law_b", 5)]) rfl nd
      rfl rfl (sw_true rfl rfl rfl (by decide +kernel)) (iS (eCal C_l_pairs hr gd (by first | decide | omega) rfl (aC (eV 0) (aC (eV 1) (aN))))) (blkOk_by (by kernel_rfl)) (by decide)
      (fun _ _ _ _ _ => gT rfl (gsC (gN (i := 4) nd rfl (by first | exact Or.inl rfl | exact Or.inr rfl)) (gsC (gN (i := 5) nd rfl (by first | exact Or.inl rfl | exact Or.inr rfl)) (gsN)))) (fun _ _ _ _ _ => tsN) (fun _ _ _ _ _ => eTup (aC (eIx
      hu (eV 2) (eV 4)) (aC (eIx hu (eV 2) (eV 5)) (aN))))) (ss1 (sRet (eTup (aC (eT bTuple rfl T.b_tuple (by decide +kernel) (aC (eV 2) (aN))) (aC (eT bTuple
      rfl T.b_tuple (by decide +kernel) (aC (eV 3) (aN))) (aN)))))))
theorem sc_members : FnScope n_members ["number"] (defScope s_members) := ⟨rfl, rfl, rfl, by decide +kernel, rfl, by decide +kernel, by decide +kernel⟩
theorem c_members (T : Txt K mg) (F : Fun K "members" "members" s_members f fd) (hm : mg "members" = some (.ref f))  : Cal P w K mg base 1 "members" m_members := by
  have hb := (F.binds (ps := ["number"]) fun _ _ _ _ _ _ us hl => match us, hl with | [_], _ => rfl)
  have hc := @cal_mk P w K mg base "members" "members" s_members f fd n_members ["number"] 0 1 y_members F sc_members rfl hm hb
  refine hc fun cdv A outer s H E hr gd => ?_
  have nd := sc_members.nd
  have hu := hu_room hr
  exact ssC (sCellR 1 nd rfl (by first | exact Or.inl rfl | exact Or.inr rfl) (eLst (aN))) (ssC (sSetR 2 nd rfl (by first | exact Or.inl rfl | exact Or.inr rfl) (eInt)) (ssC (sWhile 1000000 PassesOwn.never (bCmp (oGt hu) (eV 0) (eInt)) (ssC (sIfR
      (bCmp (oEq hu) (eOp oAnd (eV 0) (eInt)) (eInt)) (ss1 (sExpr (eM PySem.F.plainAttrs_list PySem.F.slot_list_append PySem.F.type_list_append mAppend (eV
      1) (aC (eV 2) (aN))))) (ssN)) (ssC (sSetR 0 nd rfl (by first | exact Or.inl rfl | exact Or.inr rfl) (eOp oShr (eV 0) (eInt))) (ss1 (sAugR 2 nd rfl (by first | exact Or.inl rfl | exact Or.inr rfl) oAugAdd (eInt)))))) (ss1 (sRet (eV 1)))))
theorem sc_around : FnScope n_around ["ties", "number"] (defScope s_around) := ⟨rfl, rfl, rfl, by decide +kernel, rfl, by decide +kernel, by decide +kernel⟩
theorem c_around (T : Txt K mg) (F : Fun K "around" "around" s_around f fd) (hm : mg "around" = some (.ref f)) (C_members : Cal P w K mg base 1 "members" m_members) : Cal P w K mg base 2 "around" m_around := by
  have hb := (F.binds (ps := ["ties", "number"]) fun _ _ _ _ _ _ us hl => match us, hl with | [_, _], _ => rfl)
  have hc := @cal_mk P w K mg base "around" "around" s_around f fd n_around ["ties", "number"] 1 2 y_around F sc_around rfl hm hb
  refine hc fun cdv A outer s H E hr gd => ?_
  have nd := sc_around.nd
  have hu := hu_room hr
  exact ssC (sSetR 2 nd rfl (by first | exact Or.inl rfl | exact Or.inr rfl) (eInt)) (ssC (sFor PassesOwn.never rfl (iS (eCal C_members hr gd (by first | decide | omega) rfl (aC (eV 1) (aN)))) (gN (i := 3) nd rfl (by first | exact Or.inl rfl | exact Or.inr rfl)) (ss1
      (sSetR 2 nd rfl (by first | exact Or.inl rfl | exact Or.inr rfl) (eOp oOr (eV 2) (eIx hu (eV 0) (eV 3)))))) (ss1 (sRet (eV 2))))
theorem sc_outside : FnScope n_outside ["some", "number"] (defScope s_outside) := ⟨rfl, rfl, rfl, by decide +kernel, rfl, by decide +kernel, by decide +kernel⟩
theorem c_outside (T : Txt K mg) (F : Fun K "outside" "outside" s_outside f fd) (hm : mg "outside" = some (.ref f))  : Cal P w K mg base 1 "outside" m_outside := by
  have hb := (F.binds (ps := ["some", "number"]) fun _ _ _ _ _ _ us hl => match us, hl with | [_, _], _ => rfl)
  have hc := @cal_mk P w K mg base "outside" "outside" s_outside f fd n_outside ["some", "number"] 0 2 y_outside F sc_outside rfl hm hb
  refine hc fun cdv A outer s H E hr gd => ?_
  have nd := sc_outside.nd
  have hu := hu_room hr
  exact ss1 (sRet (eOp oSub (eV 0) (eOp oAnd (eV 0) (eV 1))))
theorem sc_width_cost : FnScope n_width_cost ["ties", "number", "at"] (defScope s_width_cost) := ⟨rfl, rfl, rfl, by decide +kernel, rfl, by decide +kernel, by decide +kernel⟩
theorem c_width_cost (T : Txt K mg) (F : Fun K "width_cost" "width_cost" s_width_cost f fd) (hm : mg "width_cost" = some (.ref f)) (C_members : Cal P w K mg base 1 "members" m_members) (C_around : Cal P w K mg base 2 "around" m_around) (C_outside : Cal P w K mg base 1 "outside" m_outside) : Cal P w K mg base 3 "width_cost" m_width_cost := by
  have hb := (F.binds (ps := ["ties", "number", "at"]) fun _ _ _ _ _ _ us hl => match us, hl with | [_, _, _], _ => rfl)
  have hc := @cal_mk P w K mg base "width_cost" "width_cost" s_width_cost f fd n_width_cost ["ties", "number", "at"] 2 3 y_width_cost F sc_width_cost rfl hm hb
  refine hc fun cdv A outer s H E hr gd => ?_
  have nd := sc_width_cost.nd
  have hu := hu_room hr
  exact ssC (sSetR 3 nd rfl (by first | exact Or.inl rfl | exact Or.inr rfl) (eOp oShl (eInt) (eV 2))) (ssC (sSetR 4 nd rfl (by first | exact Or.inl rfl | exact Or.inr rfl) (eInt)) (ssC (sWhile 1000000 PassesOwn.never (bCmp (oNe hu) (eV 3) (eV 4))
      (ssC (sSetR 4 nd rfl (by first | exact Or.inl rfl | exact Or.inr rfl) (eV 3)) (ss1 (sSetR 3 nd rfl (by first | exact Or.inl rfl | exact Or.inr rfl) (eOp oOr (eV 3) (eOp oAnd (eCal C_around hr gd (by first | decide | omega) rfl (aC (eV 0) (aC (eV 3) (aN)))) (eV
      1))))))) (ss1 (sRet (eB bLen rfl T.b_len (by decide +kernel) (aC (eCal C_members hr gd (by first | decide | omega) rfl (aC (eCal C_outside hr gd (by first | decide | omega) rfl (aC (eCal C_around
      hr gd (by first | decide | omega) rfl (aC (eV 0) (aC (eV 3) (aN)))) (aC (eV 1) (aN)))) (aN))) (aN)))))))
theorem sc_near : FnScope n_near ["web", "place"] (defScope s_near) := ⟨rfl, rfl, rfl, by decide +kernel, rfl, by decide +kernel, by decide +kernel⟩
theorem c_near (T : Txt K mg) (F : Fun K "near" "near" s_near f fd) (hm : mg "near" = some (.ref f))  : Cal P w K mg base 1 "near" m_near := by
  have hb := (F.binds (ps := ["web", "place"]) fun _ _ _ _ _ _ us hl => match us, hl with | [_, _], _ => rfl)
  have hc := @cal_mk P w K mg base "near" "near" s_near f fd n_near ["web", "place"] 0 2 y_near F sc_near rfl hm hb
  refine hc fun cdv A outer s H E hr gd => ?_
  have nd := sc_near.nd
  have hu := hu_room hr
  exact ssC (sSetLc 2 (own := [("a", 4), ("b", 5)]) rfl nd rfl rfl (sw_true rfl rfl rfl (by decide +kernel)) (iS (eIx hu (eV 0) (eInt))) (blkOk_by (by kernel_rfl))
      (by decide) (fun _ _ _ _ _ => gT rfl (gsC (gN (i := 4) nd rfl (by first | exact Or.inl rfl | exact Or.inr rfl)) (gsC (gN (i := 5) nd rfl (by first | exact Or.inl rfl | exact Or.inr rfl)) (gsN)))) (fun _ _ _ _ _ => ts1 (bCmp (oEq hu) (eV
      5) (eV 1))) (fun _ _ _ _ _ => eV 4)) (ssC (sSetLc 3 (own := [("a", 4), ("b", 5)]) rfl nd rfl rfl (sw_true rfl rfl rfl (by decide +kernel)) (iS (eIx hu
      (eV 0) (eInt))) (blkOk_by (by kernel_rfl)) (by decide) (fun _ _ _ _ _ => gT rfl (gsC (gN (i := 4) nd rfl (by first | exact Or.inl rfl | exact Or.inr rfl)) (gsC (gN (i := 5) nd rfl (by first | exact Or.inl rfl | exact Or.inr rfl)) (gsN))))
      (fun _ _ _ _ _ => ts1 (bCmp (oEq hu) (eV 4) (eV 1))) (fun _ _ _ _ _ => eV 5)) (ss1 (sRet (eT bTuple rfl T.b_tuple (by decide +kernel) (aC (eB (bSorted
      hu) rfl T.b_sorted (by decide +kernel) (aC (eOp oAdd (eV 2) (eV 3)) (aN))) (aN))))))
theorem sc_ties_by_place : FnScope n_ties_by_place ["web"] (defScope s_ties_by_place) := ⟨rfl, rfl, rfl, by decide +kernel, rfl, by decide +kernel, by decide +kernel⟩
theorem c_ties_by_place (T : Txt K mg) (F : Fun K "ties_by_place" "ties_by_place" s_ties_by_place f fd) (hm : mg "ties_by_place" = some (.ref f)) (C_near : Cal P w K mg base 1 "near" m_near) : Cal P w K mg base 2 "ties_by_place" m_ties_by_place := by
  have hb := (F.binds (ps := ["web"]) fun _ _ _ _ _ _ us hl => match us, hl with | [_], _ => rfl)
  have hc := @cal_mk P w K mg base "ties_by_place" "ties_by_place" s_ties_by_place f fd n_ties_by_place ["web"] 1 1 y_ties_by_place F sc_ties_by_place rfl hm hb
  refine hc fun cdv A outer s H E hr gd => ?_
  have nd := sc_ties_by_place.nd
  have hu := hu_room hr
  exact ssC (sSetR 1 nd rfl (by first | exact Or.inl rfl | exact Or.inr rfl) (eIx hu (eV 0) (eInt))) (ssC (sCellR 2 nd rfl (by first | exact Or.inl rfl | exact Or.inr rfl) (eLst (aN))) (ssC (sFor PassesOwn.never rfl (iS (eV 1)) (gN (i := 3) nd rfl
      (by first | exact Or.inl rfl | exact Or.inr rfl)) (ssC (sSetR 4 nd rfl (by first | exact Or.inl rfl | exact Or.inr rfl) (eInt)) (ssC (sFor PassesOwn.never rfl (iS (eCal C_near hr gd (by first | decide | omega) rfl (aC (eV 0) (aC (eV 3) (aN))))) (gN (i := 5)
      nd rfl (by first | exact Or.inl rfl | exact Or.inr rfl)) (ss1 (sSetR 4 nd rfl (by first | exact Or.inl rfl | exact Or.inr rfl) (eOp oOr (eV 4) (eOp oShl (eInt) (eM2 PySem.F.plainAttrs_list PySem.F.slot_list_index PySem.F.type_list_index
      mIdxL PySem.F.plainAttrs_tuple PySem.F.slot_tuple_index PySem.F.type_tuple_index mIdxT (eV 1) (aC (eV 5) (aN)))))))) (ss1 (sExpr (eM PySem.F.plainAttrs_list
      PySem.F.slot_list_append PySem.F.type_list_append mAppend (eV 2) (aC (eV 4) (aN)))))))) (ss1 (sRet (eV 2)))))
theorem sc_spread_cost : FnScope n_spread_cost ["ties", "number", "at"] (defScope s_spread_cost) := ⟨rfl, rfl, rfl, by decide +kernel, rfl, by decide +kernel, by decide +kernel⟩
theorem c_spread_cost (T : Txt K mg) (F : Fun K "spread_cost" "spread_cost" s_spread_cost f fd) (hm : mg "spread_cost" = some (.ref f)) (C_members : Cal P w K mg base 1 "members" m_members) (C_outside : Cal P w K mg base 1 "outside" m_outside) : Cal P w K mg base 2 "spread_cost" m_spread_cost := by
  have hb := (F.binds (ps := ["ties", "number", "at"]) fun _ _ _ _ _ _ us hl => match us, hl with | [_, _, _], _ => rfl)
  have hc := @cal_mk P w K mg base "spread_cost" "spread_cost" s_spread_cost f fd n_spread_cost ["ties", "number", "at"] 1 3 y_spread_cost F sc_spread_cost rfl hm hb
  refine hc fun cdv A outer s H E hr gd => ?_
  have nd := sc_spread_cost.nd
  have hu := hu_room hr
  exact ssC (sSetLc 3 (own := [("place", 4)]) rfl nd rfl rfl (sw_true rfl rfl rfl (by decide +kernel)) (iS (eCal C_members hr gd (by first | decide | omega) rfl (aC (eV 1) (aN)))) (blkOk_by
      (by kernel_rfl)) (by decide) (fun _ _ _ _ _ => gN (i := 4) nd rfl (by first | exact Or.inl rfl | exact Or.inr rfl)) (fun _ _ _ _ _ => ts1 (bPw (wAnd (bCmp (oNe hu) (eV 4) (eV 2)) (wAnd1 (bCmp (oGt
      hu) (eCal C_outside hr gd (by first | decide | omega) rfl (aC (eIx hu (eV 0) (eV 4)) (aC (eV 1) (aN)))) (eInt)))))) (fun _ _ _ _ _ => eV 4)) (ss1 (sRet (eOp oAdd (eB bLen rfl
      T.b_len (by decide +kernel) (aC (eV 3) (aN))) (eT bInt rfl T.b_int (by decide +kernel) (aC (eCmp (oGt hu) (eCal C_outside hr gd (by first | decide | omega) rfl (aC (eIx hu
      (eV 0) (eV 2)) (aC (eV 1) (aN)))) (eInt)) (aN))))))
theorem sc_last_cost : FnScope n_last_cost ["ties", "table", "number", "at", "cost"] (defScope s_last_cost) := ⟨rfl, rfl, rfl, by decide +kernel, rfl, by decide +kernel, by decide +kernel⟩
theorem c_last_cost (T : Txt K mg) (F : Fun K "last_cost" "last_cost" s_last_cost f fd) (hm : mg "last_cost" = some (.ref f)) (C_width_cost : Cal P w K mg base 3 "width_cost" m_width_cost) (C_spread_cost : Cal P w K mg base 2 "spread_cost" m_spread_cost) (O_width_cost : CalO P w K mg base 3 "width_cost" m_width_cost) (O_spread_cost : CalO P w K mg base 2 "spread_cost" m_spread_cost) : Cal P w K mg base 4 "last_cost" m_last_cost := by
  have hb := (F.binds (ps := ["ties", "table", "number", "at", "cost"]) fun _ _ _ _ _ _ us hl => match us, hl with | [_, _, _, _, _], _ => rfl)
  have hc := @cal_mk P w K mg base "last_cost" "last_cost" s_last_cost f fd n_last_cost ["ties", "table", "number", "at", "cost"] 3 5 y_last_cost F sc_last_cost rfl hm hb
  refine hc fun cdv A outer s H E hr gd => ?_
  have nd := sc_last_cost.nd
  have hu := hu_room hr
  exact ss1 (sRet (eB (bMax rfl hu) rfl T.b_max (by decide +kernel) (aC (eIx hu (eV 1) (eOp oSub (eV 2) (eOp oShl (eInt) (eV 3)))) (aC (eCalV 4 (T := [("spread_cost",
      m_spread_cost), ("width_cost", m_width_cost)]) (List.forall_mem_cons.mpr ⟨O_spread_cost.up (by first | decide | omega), List.forall_mem_cons.mpr ⟨O_width_cost.up (by first | decide | omega), (fun
      _ hq => nomatch hq)⟩⟩) hr gd (aC (eV 0) (aC (eV 2) (aC (eV 3) (aN))))) (aN)))))
theorem sc_are_numbers : FnScope n_are_numbers ["thing", "many"] (defScope s_are_numbers) := ⟨rfl, rfl, rfl, by decide +kernel, rfl, by decide +kernel, by decide +kernel⟩
theorem c_are_numbers (T : Txt K mg) (F : Fun K "are_numbers" "are_numbers" s_are_numbers f fd) (hm : mg "are_numbers" = some (.ref f))  : Cal P w K mg base 1 "are_numbers" m_are_numbers := by
  have hb := (F.binds (ps := ["thing", "many"]) fun _ _ _ _ _ _ us hl => match us, hl with | [_, _], _ => rfl)
  have hc := @cal_mk P w K mg base "are_numbers" "are_numbers" s_are_numbers f fd n_are_numbers ["thing", "many"] 0 2 y_are_numbers F sc_are_numbers rfl hm hb
  refine hc fun cdv A outer s H E hr gd => ?_
  have nd := sc_are_numbers.nd
  have hu := hu_room hr
  exact ssC (sIfR (bPw (wOr (bNo (bVal (eIsi (T := "tuple") (by simp) rfl T.b_isinstance rfl T.b_tuple (by decide +kernel) (eV 0)))) (wOr1 (bCmp (oNe hu) (eB bLen
      rfl T.b_len (by decide +kernel) (aC (eV 0) (aN))) (eV 1))))) (ss1 (sRet (eBl))) (ssN)) (ss1 (sRet (eB (bAll rfl) rfl T.b_all (by decide +kernel) (aC (eComp
      (own := [("one", 2)]) rfl nd (iS (eV 0)) (blkOk_by (by kernel_rfl)) (by decide) (fun _ _ _ _ _ => gN (i := 2) nd rfl (by first | exact Or.inl rfl | exact Or.inr rfl)) (fun _ _ _ _ _ => tsN) (fun
      _ _ _ _ _ => eAnd (eIsi (T := "int") (by simp) rfl T.b_isinstance rfl T.b_int (by decide +kernel) (eV 2)) (eOne (eNot (eIsi (T := "bool") (by simp) rfl
      T.b_isinstance rfl T.b_bool (by decide +kernel) (eV 2)))))) (aN)))))
theorem sc_shows_by : FnScope n_shows_by ["web", "many", "thing", "cost"] (defScope s_shows_by) := ⟨rfl, rfl, rfl, by decide +kernel, rfl, by decide +kernel, by decide +kernel⟩
theorem c_shows_by (T : Txt K mg) (F : Fun K "shows_by" "shows_by" s_shows_by f fd) (hm : mg "shows_by" = some (.ref f)) (C_ties_by_place : Cal P w K mg base 2 "ties_by_place" m_ties_by_place) (C_members : Cal P w K mg base 1 "members" m_members) (C_last_cost : Cal P w K mg base 4 "last_cost" m_last_cost) (C_are_numbers : Cal P w K mg base 1 "are_numbers" m_are_numbers) : Cal P w K mg base 5 "shows_by" m_shows_by := by
  have hb := (F.binds (ps := ["web", "many", "thing", "cost"]) fun _ _ _ _ _ _ us hl => match us, hl with | [_, _, _, _], _ => rfl)
  have hc := @cal_mk P w K mg base "shows_by" "shows_by" s_shows_by f fd n_shows_by ["web", "many", "thing", "cost"] 4 4 y_shows_by F sc_shows_by rfl hm hb
  refine hc fun cdv A outer s H E hr gd => ?_
  have nd := sc_shows_by.nd
  have hu := hu_room hr
  exact ssC (sSetR 4 nd rfl (by first | exact Or.inl rfl | exact Or.inr rfl) (eCal C_ties_by_place hr gd (by first | decide | omega) rfl (aC (eV 0) (aN)))) (ssC (sIfR (bPw (wOr (bNo (bVal (eCal C_are_numbers hr gd (by first | decide | omega) rfl (aC
      (eV 2) (aC (eOp oShl (eInt) (eB bLen rfl T.b_len (by decide +kernel) (aC (eV 4) (aN)))) (aN)))))) (wOr1 (bCmp (oGt hu) (eIx hu (eV 2) (eInt)) (eInt)))))
      (ss1 (sRet (eBl))) (ssN)) (ssC (sFor PassesOwn.never rfl (iR2 rfl T.b_range (aC (eInt) (aC (eB bLen rfl T.b_len (by decide +kernel) (aC (eV 2) (aN)))
      (aN)))) (gN (i := 5) nd rfl (by first | exact Or.inl rfl | exact Or.inr rfl)) (ss1 (sFor PassesOwn.never rfl (iS (eCal C_members hr gd (by first | decide | omega) rfl (aC (eV 5) (aN)))) (gN (i := 6) nd rfl (by first | exact Or.inl rfl | exact Or.inr rfl)) (ss1
      (sIfR (bCmp (oGt hu) (eIx hu (eV 2) (eV 5)) (eCal C_last_cost hr gd (by first | decide | omega) rfl (aC (eV 4) (aC (eV 2) (aC (eV 5) (aC (eV 6) (aC (eV 3) (aN)))))))) (ss1
      (sRet (eBl))) (ssN)))))) (ss1 (sRet (eCmp (oGe hu) (eIx hu (eV 2) (eNeg (eInt))) (eV 1))))))
theorem sc_shows_width : FnScope n_shows_width ["web", "many", "thing"] (defScope s_shows_width) := ⟨rfl, rfl, rfl, by decide +kernel, rfl, by decide +kernel, by decide +kernel⟩
theorem c_shows_width (T : Txt K mg) (F : Fun K "shows_width" "shows_width" s_shows_width f fd) (hm : mg "shows_width" = some (.ref f)) (C_width_cost : Cal P w K mg base 3 "width_cost" m_width_cost) (C_shows_by : Cal P w K mg base 5 "shows_by" m_shows_by) (O_width_cost : CalO P w K mg base 3 "width_cost" m_width_cost) : Cal P w K mg base 6 "shows_width" m_shows_width := by
  have hb := (F.binds (ps := ["web", "many", "thing"]) fun _ _ _ _ _ _ us hl => match us, hl with | [_, _, _], _ => rfl)
  have hc := @cal_mk P w K mg base "shows_width" "shows_width" s_shows_width f fd n_shows_width ["web", "many", "thing"] 5 3 y_shows_width F sc_shows_width rfl hm hb
  refine hc fun cdv A outer s H E hr gd => ?_
  have nd := sc_shows_width.nd
  have hu := hu_room hr
  exact ss1 (sRet (eCal C_shows_by hr gd (by first | decide | omega) rfl (aC (eV 0) (aC (eV 1) (aC (eV 2) (aC (eFn O_width_cost rfl) (aN)))))))
theorem sc_shows_spread : FnScope n_shows_spread ["web", "many", "thing"] (defScope s_shows_spread) := ⟨rfl, rfl, rfl, by decide +kernel, rfl, by decide +kernel, by decide +kernel⟩
theorem c_shows_spread (T : Txt K mg) (F : Fun K "shows_spread" "shows_spread" s_shows_spread f fd) (hm : mg "shows_spread" = some (.ref f)) (C_spread_cost : Cal P w K mg base 2 "spread_cost" m_spread_cost) (C_shows_by : Cal P w K mg base 5 "shows_by" m_shows_by) (O_spread_cost : CalO P w K mg base 2 "spread_cost" m_spread_cost) : Cal P w K mg base 6 "shows_spread" m_shows_spread := by
  have hb := (F.binds (ps := ["web", "many", "thing"]) fun _ _ _ _ _ _ us hl => match us, hl with | [_, _, _], _ => rfl)
  have hc := @cal_mk P w K mg base "shows_spread" "shows_spread" s_shows_spread f fd n_shows_spread ["web", "many", "thing"] 5 3 y_shows_spread F sc_shows_spread rfl hm hb
  refine hc fun cdv A outer s H E hr gd => ?_
  have nd := sc_shows_spread.nd
  have hu := hu_room hr
  exact ss1 (sRet (eCal C_shows_by hr gd (by first | decide | omega) rfl (aC (eV 0) (aC (eV 1) (aC (eV 2) (aC (eFn O_spread_cost rfl) (aN)))))))
theorem sc_l_pick : FnScope n_l_pick ["_law_pot_here", "_law_some"] (defScope s_l_pick) := ⟨rfl, rfl, rfl, by decide +kernel, rfl, by decide +kernel, by decide +kernel⟩
theorem c_l_pick (T : Txt K mg) (F : Fun K "_law_pick" "_law_pick" s_l_pick f fd) (hm : mg "_law_pick" = some (.ref f)) (C_l_take : Cal P w K mg base 1 "_law_take" m_l_take) : Cal P w K mg base 2 "_law_pick" m_l_pick := by
  have hb := (F.binds (ps := ["_law_pot_here", "_law_some"]) fun _ _ _ _ _ _ us hl => match us, hl with | [_, _], _ => rfl)
  have hc := @cal_mk P w K mg base "_law_pick" "_law_pick" s_l_pick f fd n_l_pick ["_law_pot_here", "_law_some"] 1 2 y_l_pick F sc_l_pick rfl hm hb
  refine hc fun cdv A outer s H E hr gd => ?_
  have nd := sc_l_pick.nd
  have hu := hu_room hr
  exact ss1 (sRet (eIx hu (eV 1) (eCal C_l_take hr gd (by first | decide | omega) rfl (aC (eV 0) (aC (eB bLen rfl T.b_len (by decide +kernel) (aC (eV 1) (aN))) (aN))))))
theorem sc_l_near : FnScope n_l_near ["_law_web_here", "_law_place"] (defScope s_l_near) := ⟨rfl, rfl, rfl, by decide +kernel, rfl, by decide +kernel, by decide +kernel⟩
theorem c_l_near (T : Txt K mg) (F : Fun K "_law_near" "_law_near" s_l_near f fd) (hm : mg "_law_near" = some (.ref f))  : Cal P w K mg base 1 "_law_near" m_l_near := by
  have hb := (F.binds (ps := ["_law_web_here", "_law_place"]) fun _ _ _ _ _ _ us hl => match us, hl with | [_, _], _ => rfl)
  have hc := @cal_mk P w K mg base "_law_near" "_law_near" s_l_near f fd n_l_near ["_law_web_here", "_law_place"] 0 2 y_l_near F sc_l_near rfl hm hb
  refine hc fun cdv A outer s H E hr gd => ?_
  have nd := sc_l_near.nd
  have hu := hu_room hr
  exact ss1 (sRet (eComp (own := [("_law_a", 2), ("_law_b", 3)]) rfl nd (iS (eIx hu (eV 0) (eInt))) (blkOk_by (by kernel_rfl)) (by decide) (fun _ _ _ _ _ => gT
      rfl (gsC (gN (i := 2) nd rfl (by first | exact Or.inl rfl | exact Or.inr rfl)) (gsC (gN (i := 3) nd rfl (by first | exact Or.inl rfl | exact Or.inr rfl)) (gsN)))) (fun _ _ _ _ _ => ts1 (bCmp (oIn hu) (eV 1) (eTup (aC (eV 2) (aC (eV 3) (aN))))))
      (fun _ _ _ _ _ => eOp oSub (eOp oAdd (eV 2) (eV 3)) (eV 1))))
theorem sc_l_masks : FnScope n_l_masks ["_law_web_here"] (defScope s_l_masks) := ⟨rfl, rfl, rfl, by decide +kernel, rfl, by decide +kernel, by decide +kernel⟩
theorem c_l_masks (T : Txt K mg) (F : Fun K "_law_masks" "_law_masks" s_l_masks f fd) (hm : mg "_law_masks" = some (.ref f)) (C_l_near : Cal P w K mg base 1 "_law_near" m_l_near) : Cal P w K mg base 2 "_law_masks" m_l_masks := by
  have hb := (F.binds (ps := ["_law_web_here"]) fun _ _ _ _ _ _ us hl => match us, hl with | [_], _ => rfl)
  have hc := @cal_mk P w K mg base "_law_masks" "_law_masks" s_l_masks f fd n_l_masks ["_law_web_here"] 1 1 y_l_masks F sc_l_masks rfl hm hb
  refine hc fun cdv A outer s H E hr gd => ?_
  have nd := sc_l_masks.nd
  have hu := hu_room hr
  exact ssC (sCellR 1 nd rfl (by first | exact Or.inl rfl | exact Or.inr rfl) (eLst (aN))) (ssC (sFor PassesOwn.never rfl (iS (eIx hu (eV 0) (eInt))) (gN (i := 2) nd rfl (by first | exact Or.inl rfl | exact Or.inr rfl)) (ss1 (sExpr (eM PySem.F.plainAttrs_list
      PySem.F.slot_list_append PySem.F.type_list_append mAppend (eV 1) (aC (eB (bSum rfl) rfl T.b_sum (by decide +kernel) (aC (eComp (own := [("_law_other",
      3)]) rfl nd (iS (eCal C_l_near hr gd (by first | decide | omega) rfl (aC (eV 0) (aC (eV 2) (aN))))) (blkOk_by (by kernel_rfl)) (by decide) (fun _ _ _ _ _ => gN (i := 3) nd
      rfl (by first | exact Or.inl rfl | exact Or.inr rfl)) (fun _ _ _ _ _ => tsN) (fun _ _ _ _ _ => eOp oShl (eInt) (eM2 PySem.F.plainAttrs_list PySem.F.slot_list_index PySem.F.type_list_index mIdxL
      PySem.F.plainAttrs_tuple PySem.F.slot_tuple_index PySem.F.type_tuple_index mIdxT (eIx hu (eV 0) (eInt)) (aC (eV 3) (aN))))) (aN))) (aN)))))) (ss1 (sRet
      (eV 1))))
theorem sc_l_costs : FnScope n_l_costs ["_law_web_here", "_law_wide"] (defScope s_l_costs) := ⟨rfl, rfl, rfl, by decide +kernel, rfl, by decide +kernel, by decide +kernel⟩
theorem c_l_costs (T : Txt K mg) (F : Fun K "_law_costs" "_law_costs" s_l_costs f fd) (hm : mg "_law_costs" = some (.ref f)) (C_l_masks : Cal P w K mg base 2 "_law_masks" m_l_masks) : Cal P w K mg base 3 "_law_costs" m_l_costs := by
  have hb := (F.binds (ps := ["_law_web_here", "_law_wide"]) fun _ _ _ _ _ _ us hl => match us, hl with | [_, _], _ => rfl)
  have hc := @cal_mk P w K mg base "_law_costs" "_law_costs" s_l_costs f fd n_l_costs ["_law_web_here", "_law_wide"] 2 2 y_l_costs F sc_l_costs rfl hm hb
  refine hc fun cdv A outer s H E hr gd => ?_
  have nd := sc_l_costs.nd
  have hu := hu_room hr
  exact ssC (sSetR 2 nd rfl (by first | exact Or.inl rfl | exact Or.inr rfl) (eCal C_l_masks hr gd (by first | decide | omega) rfl (aC (eV 0) (aN)))) (ssC (sCellR 3 nd rfl (by first | exact Or.inl rfl | exact Or.inr rfl) (eLst (aN))) (ssC (sFor PassesOwn.never rfl (iR1
      rfl T.b_range (aC (eOp oShl (eInt) (eB bLen rfl T.b_len (by decide +kernel) (aC (eV 2) (aN)))) (aN))) (gN (i := 4) nd rfl (by first | exact Or.inl rfl | exact Or.inr rfl)) (ssC (sSetR 5 nd rfl
      (by first | exact Or.inl rfl | exact Or.inr rfl) (eComp (own := [("_law_at", 7)]) rfl nd (iR1 rfl T.b_range (aC (eB bLen rfl T.b_len (by decide +kernel) (aC (eV 2) (aN))) (aN))) (blkOk_by (by kernel_rfl))
      (by decide) (fun _ _ _ _ _ => gN (i := 7) nd rfl (by first | exact Or.inl rfl | exact Or.inr rfl)) (fun _ _ _ _ _ => ts1 (bCmp (oEq hu) (eOp oAnd (eOp oShr (eV 4) (eV 7)) (eInt)) (eInt))) (fun
      _ _ _ _ _ => eV 7))) (ssBldD 6 3 rfl rfl (by decide) (by first | exact Or.inl rfl | exact Or.inr (Or.inl rfl) | exact Or.inr (Or.inr rfl)) (by first | exact Or.inl rfl | exact Or.inr (Or.inl rfl) | exact Or.inr (Or.inr rfl)) (by decide) (by decide) (by decide) (by decide) (sCellR 6 nd rfl (by first | exact Or.inl rfl | exact Or.inr rfl) (eDic0)) (sFor
      PassesOwn.never rfl (iS (eV 5)) (gN (i := 7) nd rfl (by first | exact Or.inl rfl | exact Or.inr rfl)) (ssC (sPutR hu (eV 6) (eV 7) (eB bLen rfl T.b_len (by decide +kernel) (aC (eComp (own := [("_law_one",
      11)]) rfl nd (iS (eV 5)) (blkOk_by (by kernel_rfl)) (by decide) (fun _ _ _ _ _ => gN (i := 11) nd rfl (by first | exact Or.inl rfl | exact Or.inr rfl)) (fun _ _ _ _ _ => ts1 (bCmp (oGt hu) (eOp
      oAnd (eIx hu (eV 2) (eV 11)) (eOp oSub (eNeg (eInt)) (eV 4))) (eInt))) (fun _ _ _ _ _ => eV 11)) (aN)))) (ss1 (sIfR (bVal (eV 1)) (ssC (sParC 8 9 rfl
      nd rfl rfl (by decide) rfl rfl (aCC (eLst (aC (eV 7) (aN))) (aCC (eLst (aC (eV 7) (aN))) (aNC)))) (ssC (sWhile 1000000 PassesOwn.never (bCmp (oNe hu)
      (eV 9) (eLst (aN))) (ssC (sSetR 10 nd rfl (by first | exact Or.inl rfl | exact Or.inr rfl) (eIx hu (eV 2) (eM0 PySem.F.plainAttrs_list PySem.F.slot_list_pop PySem.F.type_list_pop mPop (eV 9))))
      (ss1 (sFor PassesOwn.never rfl (iR1 rfl T.b_range (aC (eB bLen rfl T.b_len (by decide +kernel) (aC (eV 2) (aN))) (aN))) (gN (i := 11) nd rfl (by first | exact Or.inl rfl | exact Or.inr rfl)) (ss1
      (sIfR (bPw (wAnd (bCmp (oEq hu) (eOp oAnd (eOp oShr (eV 10) (eV 11)) (eInt)) (eInt)) (wAnd1 (bCmp (oNotIn hu) (eV 11) (eV 8))))) (ssC (sExpr (eM PySem.F.plainAttrs_list
      PySem.F.slot_list_append PySem.F.type_list_append mAppend (eV 8) (aC (eV 11) (aN)))) (ss1 (sExpr (eM PySem.F.plainAttrs_list PySem.F.slot_list_extend
      PySem.F.type_list_extend mExtend (eV 9) (aC (eOp oMul (eLst (aC (eV 11) (aN))) (eT bInt rfl T.b_int (by decide +kernel) (aC (eCmp (oIn hu) (eV 11) (eV
      5)) (aN)))) (aN)))))) (ssN))))))) (ss1 (sPutR hu (eV 6) (eV 7) (eB bLen rfl T.b_len (by decide +kernel) (aC (eComp (own := [("_law_one", 11)]) rfl nd
      (iS (eV 8)) (blkOk_by (by kernel_rfl)) (by decide) (fun _ _ _ _ _ => gN (i := 11) nd rfl (by first | exact Or.inl rfl | exact Or.inr rfl)) (fun _ _ _ _ _ => ts1 (bCmp (oNotIn hu) (eV 11) (eV 5)))
      (fun _ _ _ _ _ => eV 11)) (aN))))))) (ssN)))))))) (ss1 (sRet (eV 3)))))
theorem sc_l_greatest : FnScope n_l_greatest ["_law_costs_here"] (defScope s_l_greatest) := ⟨rfl, rfl, rfl, by decide +kernel, rfl, by decide +kernel, by decide +kernel⟩
theorem c_l_greatest (T : Txt K mg) (F : Fun K "_law_greatest" "_law_greatest" s_l_greatest f fd) (hm : mg "_law_greatest" = some (.ref f))  : Cal P w K mg base 1 "_law_greatest" m_l_greatest := by
  have hb := (F.binds (ps := ["_law_costs_here"]) fun _ _ _ _ _ _ us hl => match us, hl with | [_], _ => rfl)
  have hc := @cal_mk P w K mg base "_law_greatest" "_law_greatest" s_l_greatest f fd n_l_greatest ["_law_costs_here"] 0 1 y_l_greatest F sc_l_greatest rfl hm hb
  refine hc fun cdv A outer s H E hr gd => ?_
  have nd := sc_l_greatest.nd
  have hu := hu_room hr
  exact ssC (sCellR 1 nd rfl (by first | exact Or.inl rfl | exact Or.inr rfl) (eLst (aC (eInt) (aN)))) (ssC (sFor PassesOwn.never rfl (iR2 rfl T.b_range (aC (eInt) (aC (eB bLen rfl T.b_len (by decide +kernel)
      (aC (eV 0) (aN))) (aN)))) (gN (i := 2) nd rfl (by first | exact Or.inl rfl | exact Or.inr rfl)) (ssC (sSetR 3 nd rfl (by first | exact Or.inl rfl | exact Or.inr rfl) (eIx hu (eV 0) (eV 2))) (ssC (sSetLc 4 (own := [("_law_at", 5)]) rfl nd
      rfl rfl (sw_true rfl rfl rfl (by decide +kernel)) (iAn (eV 3)) (blkOk_by (by kernel_rfl)) (by decide) (fun _ _ _ _ _ => gN (i := 5) nd rfl (by first | exact Or.inl rfl | exact Or.inr rfl)) (fun
      _ _ _ _ _ => tsN) (fun _ _ _ _ _ => eB (bMax rfl hu) rfl T.b_max (by decide +kernel) (aC (eIx hu (eV 1) (eOp oSub (eV 2) (eOp oShl (eInt) (eV 5)))) (aC
      (eIx hu (eV 3) (eV 5)) (aN))))) (ss1 (sExpr (eM PySem.F.plainAttrs_list PySem.F.slot_list_append PySem.F.type_list_append mAppend (eV 1) (aC (eB (bMin
      rfl hu) rfl T.b_min (by decide +kernel) (aC (eV 4) (aN))) (aN)))))))) (ss1 (sRet (eV 1))))
theorem sc_l_odd : FnScope n_l_odd ["_law_pot_here", "_law_table"] (defScope s_l_odd) := ⟨rfl, rfl, rfl, by decide +kernel, rfl, by decide +kernel, by decide +kernel⟩
theorem c_l_odd (T : Txt K mg) (F : Fun K "_law_odd" "_law_odd" s_l_odd f fd) (hm : mg "_law_odd" = some (.ref f)) (C_l_take : Cal P w K mg base 1 "_law_take" m_l_take) (C_l_pick : Cal P w K mg base 2 "_law_pick" m_l_pick) : Cal P w K mg base 3 "_law_odd" m_l_odd := by
  have hb := (F.binds (ps := ["_law_pot_here", "_law_table"]) fun _ _ _ _ _ _ us hl => match us, hl with | [_, _], _ => rfl)
  have hc := @cal_mk P w K mg base "_law_odd" "_law_odd" s_l_odd f fd n_l_odd ["_law_pot_here", "_law_table"] 2 2 y_l_odd F sc_l_odd rfl hm hb
  refine hc fun cdv A outer s H E hr gd => ?_
  have nd := sc_l_odd.nd
  have hu := hu_room hr
  exact ssC (sParC 5 6 rfl nd rfl rfl (by decide) rfl rfl (aVC (eCal C_l_take hr gd (by first | decide | omega) rfl (aC (eV 0) (aC (eInt) (aN)))) (aVC (eCal C_l_take hr gd (by first | decide | omega) rfl
      (aC (eV 0) (aC (eB bLen rfl T.b_len (by decide +kernel) (aC (eV 1) (aN))) (aN)))) (aNC)))) (ssC (sSetR 2 nd rfl (by first | exact Or.inl rfl | exact Or.inr rfl) (eIx hu (eV 1) (eV 6))) (ssC (sSetR
      3 nd rfl (by first | exact Or.inl rfl | exact Or.inr rfl) (eLst (aC (eCmp (oGt hu) (eV 2) (eInt)) (aC (eNon) (aC (eT (bStr hu gd) rfl T.b_str (by decide +kernel) (aC (eV 2) (aN))) (aC (eTup (aC
      (eV 2) (aN))) (aC (eLst (aC (eV 2) (aN))) (aC (eDic (ddC (eV 2) (eV 2) (ddN))) (aC (eStr) (aC (eBl) (aC (eBl) (aC (eTup (aN)) (aN))))))))))))) (ssC (sSetR
      4 nd rfl (by first | exact Or.inl rfl | exact Or.inr rfl) (eCal C_l_pick hr gd (by first | decide | omega) rfl (aC (eV 0) (aC (eV 3) (aN))))) (ssC (sIfR (bCmp (oEq hu) (eV 5) (eInt)) (ss1 (sRet (eOp oAdd (eSl (eV 1)
      (poN) (poS (eV 6))) (eSl (eV 1) (poS (eOp oAdd (eV 6) (eInt))) (poN))))) (ssN)) (ssC (sIfR (bCmp (oEq hu) (eV 5) (eInt)) (ss1 (sRet (eOp oAdd (eSl (eV
      1) (poN) (poS (eOp oAdd (eV 6) (eInt)))) (eSl (eV 1) (poS (eV 6)) (poN))))) (ssN)) (ssC (sIfR (bCmp (oLt hu) (eV 5) (eInt)) (ss1 (sRet (eOp oAdd (eOp
      oAdd (eSl (eV 1) (poN) (poS (eV 6))) (eTup (aC (eV 4) (aN)))) (eSl (eV 1) (poS (eOp oAdd (eV 6) (eInt))) (poN))))) (ssN)) (ss1 (sRet (eIx hu (eLst (aC
      (eT bList rfl T.b_list (by decide +kernel) (aC (eV 1) (aN))) (aC (eTup (aC (eV 1) (aN))) (aN)))) (eOp oSub (eV 5) (eInt)))))))))))
theorem sc_l_right : FnScope n_l_right ["_law_pot_here", "_law_web_here", "_law_wide"] (defScope s_l_right) := ⟨rfl, rfl, rfl, by decide +kernel, rfl, by decide +kernel, by decide +kernel⟩
theorem c_l_right (T : Txt K mg) (F : Fun K "_law_right" "_law_right" s_l_right f fd) (hm : mg "_law_right" = some (.ref f)) (C_shows_width : Cal P w K mg base 6 "shows_width" m_shows_width) (C_shows_spread : Cal P w K mg base 6 "shows_spread" m_shows_spread) (C_l_pick : Cal P w K mg base 2 "_law_pick" m_l_pick) (C_l_costs : Cal P w K mg base 3 "_law_costs" m_l_costs) (C_l_greatest : Cal P w K mg base 1 "_law_greatest" m_l_greatest) (C_l_odd : Cal P w K mg base 3 "_law_odd" m_l_odd) (O_shows_width : CalO P w K mg base 6 "shows_width" m_shows_width) (O_shows_spread : CalO P w K mg base 6 "shows_spread" m_shows_spread) : Cal P w K mg base 7 "_law_right" m_l_right := by
  have hb := (F.binds (ps := ["_law_pot_here", "_law_web_here", "_law_wide"]) fun _ _ _ _ _ _ us hl => match us, hl with | [_, _, _], _ => rfl)
  have hc := @cal_mk P w K mg base "_law_right" "_law_right" s_l_right f fd n_l_right ["_law_pot_here", "_law_web_here", "_law_wide"] 6 3 y_l_right F sc_l_right rfl hm hb
  refine hc fun cdv A outer s H E hr gd => ?_
  have nd := sc_l_right.nd
  have hu := hu_room hr
  exact ssC (sSetR 3 nd rfl (by first | exact Or.inl rfl | exact Or.inr rfl) (eT bTuple rfl T.b_tuple (by decide +kernel) (aC (eCal C_l_greatest hr gd (by first | decide | omega) rfl (aC (eCal C_l_costs hr gd (by first | decide | omega) rfl (aC (eV
      1) (aC (eV 2) (aN)))) (aN))) (aN)))) (ssC (sSetR 4 nd rfl (by first | exact Or.inl rfl | exact Or.inr rfl) (ePick (aC (eFn O_shows_spread rfl) (aC (eFn O_shows_width rfl) (aN))) (eT bInt rfl T.b_int
      (by decide +kernel) (aC (eV 2) (aN))))) (ssC (sIfR (bCmp oNotB (eCalV 4 (T := [("shows_spread", m_shows_spread), ("shows_width", m_shows_width)]) (List.forall_mem_cons.mpr
      ⟨O_shows_spread.up (by first | decide | omega), List.forall_mem_cons.mpr ⟨O_shows_width.up (by first | decide | omega), (fun _ hq => nomatch hq)⟩⟩) hr gd (aC (eV 1) (aC (eIx hu (eV 3) (eNeg (eInt)))
      (aC (eV 3) (aN))))) (eBl)) (ss1 (sRet (eBl))) (ssN)) (ssC (sSetR 5 nd rfl (by first | exact Or.inl rfl | exact Or.inr rfl) (eLst (aC (eNon) (aC (eBl) (aC (eInt) (aC (eStr) (aC (eStr) (aC (eLst
      (aN)) (aC (eDic0) (aC (eTup (aN)) (aC (eOp oAdd (eV 3) (eTup (aC (eInt) (aN)))) (aC (eTup (aC (eV 3) (aC (eV 3) (aN)))) (aN))))))))))))) (ssC (sSetR 5
      nd rfl (by first | exact Or.inl rfl | exact Or.inr rfl) (eOp oAdd (eV 5) (eLst (aC (eIx hu (eV 3) (eNeg (eInt))) (aC (eOp oMulT (eTup (aC (eTup (aN)) (aN))) (eB bLen rfl T.b_len (by decide +kernel)
      (aC (eV 3) (aN)))) (aN)))))) (ssC (sFor PassesOwn.never rfl (iS (eOp oAdd (eV 5) (eComp (own := [("_law_k", 8)]) rfl nd (iR1 rfl T.b_range (aC (eInt)
      (aN))) (blkOk_by (by kernel_rfl)) (by decide) (fun _ _ _ _ _ => gN (i := 8) nd rfl (by first | exact Or.inl rfl | exact Or.inr rfl)) (fun _ _ _ _ _ => tsN) (fun _ _ _ _ _ => eCal C_l_odd hr gd
      (by first | decide | omega) rfl (aC (eV 0) (aC (eV 3) (aN))))))) (gN (i := 6) nd rfl (by first | exact Or.inl rfl | exact Or.inr rfl)) (ssC (sSetR 7 nd rfl (by first | exact Or.inl rfl | exact Or.inr rfl) (eCal C_l_pick hr gd (by first | decide | omega) rfl (aC (eV 0) (aC (eLst (aC
      (eInt) (aC (eNeg (eInt)) (aC (eNeg (eOp oPow (eInt) (eInt))) (aC (eIx hu (eV 3) (eNeg (eInt))) (aN)))))) (aN))))) (ss1 (sIfR (bCmp oNotB (eCalV 4 (T :=
      [("shows_spread", m_shows_spread), ("shows_width", m_shows_width)]) (List.forall_mem_cons.mpr ⟨O_shows_spread.up (by first | decide | omega), List.forall_mem_cons.mpr ⟨O_shows_width.up
      (by first | decide | omega), (fun _ hq => nomatch hq)⟩⟩) hr gd (aC (eV 1) (aC (eV 7) (aC (eV 6) (aN))))) (eBl)) (ss1 (sRet (eBl))) (ssN))))) (ss1 (sRet (eCmp oIsB (eCalV 4
      (T := [("shows_spread", m_shows_spread), ("shows_width", m_shows_width)]) (List.forall_mem_cons.mpr ⟨O_shows_spread.up (by first | decide | omega), List.forall_mem_cons.mpr
      ⟨O_shows_width.up (by first | decide | omega), (fun _ hq => nomatch hq)⟩⟩) hr gd (aC (eV 1) (aC (eIx hu (eV 3) (eNeg (eInt))) (aC (eV 3) (aN))))) (eBl)))))))))
theorem sc_law : FnScope n_law ["_law_script"] (defScope s_law) := ⟨rfl, rfl, rfl, by decide +kernel, rfl, by decide +kernel, by decide +kernel⟩

theorem o_law (T : Txt K mg) (F : Fun K "law" "law" s_law f fd) (C_l_pot : Cal P w K mg base 1 "_law_pot" m_l_pot) (C_l_take : Cal P w K mg base 1 "_law_take" m_l_take) (C_l_web : Cal P w K mg base 3 "_law_web" m_l_web) (C_l_right : Cal P w K mg base 7 "_law_right" m_l_right) : FnG P w K mg base 8 f fd ["_law_script"] (spF K m_law) := by
  have hc := @fn_ok K P w mg base "law" "law" s_law f fd n_law ["_law_script"] 7 1 y_law F sc_law rfl
  refine hc fun cdv A outer s H E hr gd => ?_
  have nd := sc_law.nd
  have hu := hu_room hr
  exact ssC (sCellR 1 nd rfl (by first | exact Or.inl rfl | exact Or.inr rfl) (eCal C_l_pot hr gd (by first | decide | omega) rfl (aC (eV 0) (aN)))) (ssC (sFor PassesOwn.never rfl (iR1 rfl T.b_range (aC (eInt) (aN))) (gN (i :=
      2) nd rfl (by first | exact Or.inl rfl | exact Or.inr rfl)) (ssC (sSetR 3 nd rfl (by first | exact Or.inl rfl | exact Or.inr rfl) (eCal C_l_web hr gd (by first | decide | omega) rfl (aC (eV 1) (aC (eCal C_l_take hr gd (by first | decide | omega) rfl (aC (eV 1) (aC (eInt) (aN))))
      (aN))))) (ss1 (sIfR (bPw (wOr (bNo (bVal (eCal C_l_right hr gd (by first | decide | omega) rfl (aC (eV 1) (aC (eV 3) (aC (eBl) (aN))))))) (wOr1 (bNo (bVal (eCal C_l_right hr
      gd (by first | decide | omega) rfl (aC (eV 1) (aC (eV 3) (aC (eBl) (aN)))))))))) (ss1 (sRet (eBl))) (ssN))))) (ss1 (sRet (eBl))))
end
end Z
set_option Elab.async false
set_option linter.all false
set_option maxRecDepth 100000
namespace Z
open PySem PySem.Spec PyProof.Rows L2 MV
theorem all_mk {l : PySem.W.OpenLaw} {w : World} {K : PySem.W.Frag} {h : Heap} {mg : Str → Option Value} {fa f_l_pot f_l_take f_l_places f_l_pairs f_l_web f_members f_around f_outside f_width_cost f_near f_ties_by_place f_spread_cost f_last_cost f_are_numbers f_shows_by f_shows_width f_shows_spread f_l_pick f_l_near f_l_masks f_l_costs f_l_greatest f_l_odd f_l_right f_law : Addr} (X : K.In h) (G : h.Ns mainGlobals mg) (hfa : mg "law" = some (.ref fa))
    {od_l_pot an_l_pot : Option Addr} {sl_l_pot : Array (Option Value)} {oc_l_pot kV_l_pot dc_l_pot pm_l_pot cd_l_pot ct_l_pot : Value}
    (a_l_pot : PySem.W.nsIn K mainGlobals "_law_pot" = some (some (.ref f_l_pot))) (l_l_pot : K.lookup f_l_pot = some ⟨oc_l_pot, od_l_pot, .func (PySem.W.fnOf "_law_pot" "_law_pot" (defArgs s_l_pot) (defBody s_l_pot) (defScope s_l_pot) .none kV_l_pot dc_l_pot pm_l_pot an_l_pot cd_l_pot ct_l_pot), sl_l_pot⟩) (h_l_pot : PySem.W.codeIn K cd_l_pot "_law_pot" = true) (k_l_pot : PySem.W.keepIn K (.ref f_l_pot) = true)
    {od_l_take an_l_take : Option Addr} {sl_l_take : Array (Option Value)} {oc_l_take kV_l_take dc_l_take pm_l_take cd_l_take ct_l_take : Value}
    (a_l_take : PySem.W.nsIn K mainGlobals "_law_take" = some (some (.ref f_l_take))) (l_l_take : K.lookup f_l_take = some ⟨oc_l_take, od_l_take, .func (PySem.W.fnOf "_law_take" "_law_take" (defArgs s_l_take) (defBody s_l_take) (defScope s_l_take) .none kV_l_take dc_l_take pm_l_take an_l_take cd_l_take ct_l_take), sl_l_take⟩) (h_l_take : PySem.W.codeIn K cd_l_take "_law_take" = true) (k_l_take : PySem.W.keepIn K (.ref f_l_take) = true)
    {od_l_places an_l_places : Option Addr} {sl_l_places : Array (Option Value)} {oc_l_places kV_l_places dc_l_places pm_l_places cd_l_places ct_l_places : Value}
    (a_l_places : PySem.W.nsIn K mainGlobals "_law_places" = some (some (.ref f_l_places))) (l_l_places : K.lookup f_l_places = some ⟨oc_l_places, od_l_places, .func (PySem.W.fnOf "_law_places" "_law_places" (defArgs s_l_places) (defBody s_l_places) (defScope s_l_places) .none kV_l_places dc_l_places pm_l_places an_l_places cd_l_places ct_l_places), sl_l_places⟩) (h_l_places : PySem.W.codeIn K cd_l_places "_law_places" = true) (k_l_places : PySem.W.keepIn K (.ref f_l_places) = true)
    {od_l_pairs an_l_pairs : Option Addr} {sl_l_pairs : Array (Option Value)} {oc_l_pairs kV_l_pairs dc_l_pairs pm_l_pairs cd_l_pairs ct_l_pairs : Value}
    (a_l_pairs : PySem.W.nsIn K mainGlobals "_law_pairs" = some (some (.ref f_l_pairs))) (l_l_pairs : K.lookup f_l_pairs = some ⟨oc_l_pairs, od_l_pairs, .func (PySem.W.fnOf "_law_pairs" "_law_pairs" (defArgs s_l_pairs) (defBody s_l_pairs) (defScope s_l_pairs) .none kV_l_pairs dc_l_pairs pm_l_pairs an_l_pairs cd_l_pairs ct_l_pairs), sl_l_pairs⟩) (h_l_pairs : PySem.W.codeIn K cd_l_pairs "_law_pairs" = true) (k_l_pairs : PySem.W.keepIn K (.ref f_l_pairs) = true)
    {od_l_web an_l_web : Option Addr} {sl_l_web : Array (Option Value)} {oc_l_web kV_l_web dc_l_web pm_l_web cd_l_web ct_l_web : Value}
    (a_l_web : PySem.W.nsIn K mainGlobals "_law_web" = some (some (.ref f_l_web))) (l_l_web : K.lookup f_l_web = some ⟨oc_l_web, od_l_web, .func (PySem.W.fnOf "_law_web" "_law_web" (defArgs s_l_web) (defBody s_l_web) (defScope s_l_web) .none kV_l_web dc_l_web pm_l_web an_l_web cd_l_web ct_l_web), sl_l_web⟩) (h_l_web : PySem.W.codeIn K cd_l_web "_law_web" = true) (k_l_web : PySem.W.keepIn K (.ref f_l_web) = true)
    {od_members an_members : Option Addr} {sl_members : Array (Option Value)} {oc_members kV_members dc_members pm_members cd_members ct_members : Value}
    (a_members : PySem.W.nsIn K mainGlobals "members" = some (some (.ref f_members))) (l_members : K.lookup f_members = some ⟨oc_members, od_members, .func (PySem.W.fnOf "members" "members" (defArgs s_members) (defBody s_members) (defScope s_members) .none kV_members dc_members pm_members an_members cd_members ct_members), sl_members⟩) (h_members : PySem.W.codeIn K cd_members "members" = true) (k_members : PySem.W.keepIn K (.ref f_members) = true)
    {od_around an_around : Option Addr} {sl_around : Array (Option Value)} {oc_around kV_around dc_around pm_around cd_around ct_around : Value}
    (a_around : PySem.W.nsIn K mainGlobals "around" = some (some (.ref f_around))) (l_around : K.lookup f_around = some ⟨oc_around, od_around, .func (PySem.W.fnOf "around" "around" (defArgs s_around) (defBody s_around) (defScope s_around) .none kV_around dc_around pm_around an_around cd_around ct_around), sl_around⟩) (h_around : PySem.W.codeIn K cd_around "around" = true) (k_around : PySem.W.keepIn K (.ref f_around) = true)
    {od_outside an_outside : Option Addr} {sl_outside : Array (Option Value)} {oc_outside kV_outside dc_outside pm_outside cd_outside ct_outside : Value}
    (a_outside : PySem.W.nsIn K mainGlobals "outside" = some (some (.ref f_outside))) (l_outside : K.lookup f_outside = some ⟨oc_outside, od_outside, .func (PySem.W.fnOf "outside" "outside" (defArgs s_outside) (defBody s_outside) (defScope s_outside) .none kV_outside dc_outside pm_outside an_outside cd_outside ct_outside), sl_outside⟩) (h_outside : PySem.W.codeIn K cd_outside "outside" = true) (k_outside : PySem.W.keepIn K (.ref f_outside) = true)
    {od_width_cost an_width_cost : Option Addr} {sl_width_cost : Array (Option Value)} {oc_width_cost kV_width_cost dc_width_cost pm_width_cost cd_width_cost ct_width_cost : Value}
    (a_width_cost : PySem.W.nsIn K mainGlobals "width_cost" = some (some (.ref f_width_cost))) (l_width_cost : K.lookup f_width_cost = some ⟨oc_width_cost, od_width_cost, .func (PySem.W.fnOf "width_cost" "width_cost" (defArgs s_width_cost) (defBody s_width_cost) (defScope s_width_cost) .none kV_width_cost dc_width_cost pm_width_cost an_width_cost cd_width_cost ct_width_cost), sl_width_cost⟩) (h_width_cost : PySem.W.codeIn K cd_width_cost "width_cost" = true) (k_width_cost : PySem.W.keepIn K (.ref f_width_cost) = true)
    {od_near an_near : Option Addr} {sl_near : Array (Option Value)} {oc_near kV_near dc_near pm_near cd_near ct_near : Value}
    (a_near : PySem.W.nsIn K mainGlobals "near" = some (some (.ref f_near))) (l_near : K.lookup f_near = some ⟨oc_near, od_near, .func (PySem.W.fnOf "near" "near" (defArgs s_near) (defBody s_near) (defScope s_near) .none kV_near dc_near pm_near an_near cd_near ct_near), sl_near⟩) (h_near : PySem.W.codeIn K cd_near "near" = true) (k_near : PySem.W.keepIn K (.ref f_near) = true)
    {od_ties_by_place an_ties_by_place : Option Addr} {sl_ties_by_place : Array (Option Value)} {oc_ties_by_place kV_ties_by_place dc_ties_by_place pm_ties_by_place cd_ties_by_place ct_ties_by_place : Value}
    (a_ties_by_place : PySem.W.nsIn K mainGlobals "ties_by_place" = some (some (.ref f_ties_by_place))) (l_ties_by_place : K.lookup f_ties_by_place = some ⟨oc_ties_by_place, od_ties_by_place, .func (PySem.W.fnOf "ties_by_place" "ties_by_place" (defArgs s_ties_by_place) (defBody s_ties_by_place) (defScope s_ties_by_place) .none kV_ties_by_place dc_ties_by_place pm_ties_by_place an_ties_by_place cd_ties_by_place ct_ties_by_place), sl_ties_by_place⟩) (h_ties_by_place : PySem.W.codeIn K cd_ties_by_place "ties_by_place" = true) (k_ties_by_place : PySem.W.keepIn K (.ref f_ties_by_place) = true)
    {od_spread_cost an_spread_cost : Option Addr} {sl_spread_cost : Array (Option Value)} {oc_spread_cost kV_spread_cost dc_spread_cost pm_spread_cost cd_spread_cost ct_spread_cost : Value}
    (a_spread_cost : PySem.W.nsIn K mainGlobals "spread_cost" = some (some (.ref f_spread_cost))) (l_spread_cost : K.lookup f_spread_cost = some ⟨oc_spread_cost, od_spread_cost, .func (PySem.W.fnOf "spread_cost" "spread_cost" (defArgs s_spread_cost) (defBody s_spread_cost) (defScope s_spread_cost) .none kV_spread_cost dc_spread_cost pm_spread_cost an_spread_cost cd_spread_cost ct_spread_cost), sl_spread_cost⟩) (h_spread_cost : PySem.W.codeIn K cd_spread_cost "spread_cost" = true) (k_spread_cost : PySem.W.keepIn K (.ref f_spread_cost) = true)
    {od_last_cost an_last_cost : Option Addr} {sl_last_cost : Array (Option Value)} {oc_last_cost kV_last_cost dc_last_cost pm_last_cost cd_last_cost ct_last_cost : Value}
    (a_last_cost : PySem.W.nsIn K mainGlobals "last_cost" = some (some (.ref f_last_cost))) (l_last_cost : K.lookup f_last_cost = some ⟨oc_last_cost, od_last_cost, .func (PySem.W.fnOf "last_cost" "last_cost" (defArgs s_last_cost) (defBody s_last_cost) (defScope s_last_cost) .none kV_last_cost dc_last_cost pm_last_cost an_last_cost cd_last_cost ct_last_cost), sl_last_cost⟩) (h_last_cost : PySem.W.codeIn K cd_last_cost "last_cost" = true) (k_last_cost : PySem.W.keepIn K (.ref f_last_cost) = true)
    {od_are_numbers an_are_numbers : Option Addr} {sl_are_numbers : Array (Option Value)} {oc_are_numbers kV_are_numbers dc_are_numbers pm_are_numbers cd_are_numbers ct_are_numbers : Value}
    (a_are_numbers : PySem.W.nsIn K mainGlobals "are_numbers" = some (some (.ref f_are_numbers))) (l_are_numbers : K.lookup f_are_numbers = some ⟨oc_are_numbers, od_are_numbers, .func (PySem.W.fnOf "are_numbers" "are_numbers" (defArgs s_are_numbers) (defBody s_are_numbers) (defScope s_are_numbers) .none kV_are_numbers dc_are_numbers pm_are_numbers an_are_numbers cd_are_numbers ct_are_numbers), sl_are_numbers⟩) (h_are_numbers : PySem.W.codeIn K cd_are_numbers "are_numbers" = true) (k_are_numbers : PySem.W.keepIn K (.ref f_are_numbers) = true)
    {od_shows_by an_shows_by : Option Addr} {sl_shows_by : Array (Option Value)} {oc_shows_by kV_shows_by dc_shows_by pm_shows_by cd_shows_by ct_shows_by : Value}
    (a_shows_by : PySem.W.nsIn K mainGlobals "shows_by" = some (some (.ref f_shows_by))) (l_shows_by : K.lookup f_shows_by = some ⟨oc_shows_by, od_shows_by, .func (PySem.W.fnOf "shows_by" "shows_by" (defArgs s_shows_by) (defBody s_shows_by) (defScope s_shows_by) .none kV_shows_by dc_shows_by pm_shows_by an_shows_by cd_shows_by ct_shows_by), sl_shows_by⟩) (h_shows_by : PySem.W.codeIn K cd_shows_by "shows_by" = true) (k_shows_by : PySem.W.keepIn K (.ref f_shows_by) = true)
    {od_shows_width an_shows_width : Option Addr} {sl_shows_width : Array (Option Value)} {oc_shows_width kV_shows_width dc_shows_width pm_shows_width cd_shows_width ct_shows_width : Value}
    (a_shows_width : PySem.W.nsIn K mainGlobals "shows_width" = some (some (.ref f_shows_width))) (l_shows_width : K.lookup f_shows_width = some ⟨oc_shows_width, od_shows_width, .func (PySem.W.fnOf "shows_width" "shows_width" (defArgs s_shows_width) (defBody s_shows_width) (defScope s_shows_width) .none kV_shows_width dc_shows_width pm_shows_width an_shows_width cd_shows_width ct_shows_width), sl_shows_width⟩) (h_shows_width : PySem.W.codeIn K cd_shows_width "shows_width" = true) (k_shows_width : PySem.W.keepIn K (.ref f_shows_width) = true)
    {od_shows_spread an_shows_spread : Option Addr} {sl_shows_spread : Array (Option Value)} {oc_shows_spread kV_shows_spread dc_shows_spread pm_shows_spread cd_shows_spread ct_shows_spread : Value}
    (a_shows_spread : PySem.W.nsIn K mainGlobals "shows_spread" = some (some (.ref f_shows_spread))) (l_shows_spread : K.lookup f_shows_spread = some ⟨oc_shows_spread, od_shows_spread, .func (PySem.W.fnOf "shows_spread" "shows_spread" (defArgs s_shows_spread) (defBody s_shows_spread) (defScope s_shows_spread) .none kV_shows_spread dc_shows_spread pm_shows_spread an_shows_spread cd_shows_spread ct_shows_spread), sl_shows_spread⟩) (h_shows_spread : PySem.W.codeIn K cd_shows_spread "shows_spread" = true) (k_shows_spread : PySem.W.keepIn K (.ref f_shows_spread) = true)
    {od_l_pick an_l_pick : Option Addr} {sl_l_pick : Array (Option Value)} {oc_l_pick kV_l_pick dc_l_pick pm_l_pick cd_l_pick ct_l_pick : Value}
    (a_l_pick : PySem.W.nsIn K mainGlobals "_law_pick" = some (some (.ref f_l_pick))) (l_l_pick : K.lookup f_l_pick = some ⟨oc_l_pick, od_l_pick, .func (PySem.W.fnOf "_law_pick" "_law_pick" (defArgs s_l_pick) (defBody s_l_pick) (defScope s_l_pick) .none kV_l_pick dc_l_pick pm_l_pick an_l_pick cd_l_pick ct_l_pick), sl_l_pick⟩) (h_l_pick : PySem.W.codeIn K cd_l_pick "_law_pick" = true) (k_l_pick : PySem.W.keepIn K (.ref f_l_pick) = true)
    {od_l_near an_l_near : Option Addr} {sl_l_near : Array (Option Value)} {oc_l_near kV_l_near dc_l_near pm_l_near cd_l_near ct_l_near : Value}
    (a_l_near : PySem.W.nsIn K mainGlobals "_law_near" = some (some (.ref f_l_near))) (l_l_near : K.lookup f_l_near = some ⟨oc_l_near, od_l_near, .func (PySem.W.fnOf "_law_near" "_law_near" (defArgs s_l_near) (defBody s_l_near) (defScope s_l_near) .none kV_l_near dc_l_near pm_l_near an_l_near cd_l_near ct_l_near), sl_l_near⟩) (h_l_near : PySem.W.codeIn K cd_l_near "_law_near" = true) (k_l_near : PySem.W.keepIn K (.ref f_l_near) = true)
    {od_l_masks an_l_masks : Option Addr} {sl_l_masks : Array (Option Value)} {oc_l_masks kV_l_masks dc_l_masks pm_l_masks cd_l_masks ct_l_masks : Value}
    (a_l_masks : PySem.W.nsIn K mainGlobals "_law_masks" = some (some (.ref f_l_masks))) (l_l_masks : K.lookup f_l_masks = some ⟨oc_l_masks, od_l_masks, .func (PySem.W.fnOf "_law_masks" "_law_masks" (defArgs s_l_masks) (defBody s_l_masks) (defScope s_l_masks) .none kV_l_masks dc_l_masks pm_l_masks an_l_masks cd_l_masks ct_l_masks), sl_l_masks⟩) (h_l_masks : PySem.W.codeIn K cd_l_masks "_law_masks" = true) (k_l_masks : PySem.W.keepIn K (.ref f_l_masks) = true)
    {od_l_costs an_l_costs : Option Addr} {sl_l_costs : Array (Option Value)} {oc_l_costs kV_l_costs dc_l_costs pm_l_costs cd_l_costs ct_l_costs : Value}
    (a_l_costs : PySem.W.nsIn K mainGlobals "_law_costs" = some (some (.ref f_l_costs))) (l_l_costs : K.lookup f_l_costs = some ⟨oc_l_costs, od_l_costs, .func (PySem.W.fnOf "_law_costs" "_law_costs" (defArgs s_l_costs) (defBody s_l_costs) (defScope s_l_costs) .none kV_l_costs dc_l_costs pm_l_costs an_l_costs cd_l_costs ct_l_costs), sl_l_costs⟩) (h_l_costs : PySem.W.codeIn K cd_l_costs "_law_costs" = true) (k_l_costs : PySem.W.keepIn K (.ref f_l_costs) = true)
    {od_l_greatest an_l_greatest : Option Addr} {sl_l_greatest : Array (Option Value)} {oc_l_greatest kV_l_greatest dc_l_greatest pm_l_greatest cd_l_greatest ct_l_greatest : Value}
    (a_l_greatest : PySem.W.nsIn K mainGlobals "_law_greatest" = some (some (.ref f_l_greatest))) (l_l_greatest : K.lookup f_l_greatest = some ⟨oc_l_greatest, od_l_greatest, .func (PySem.W.fnOf "_law_greatest" "_law_greatest" (defArgs s_l_greatest) (defBody s_l_greatest) (defScope s_l_greatest) .none kV_l_greatest dc_l_greatest pm_l_greatest an_l_greatest cd_l_greatest ct_l_greatest), sl_l_greatest⟩) (h_l_greatest : PySem.W.codeIn K cd_l_greatest "_law_greatest" = true) (k_l_greatest : PySem.W.keepIn K (.ref f_l_greatest) = true)
    {od_l_odd an_l_odd : Option Addr} {sl_l_odd : Array (Option Value)} {oc_l_odd kV_l_odd dc_l_odd pm_l_odd cd_l_odd ct_l_odd : Value}
    (a_l_odd : PySem.W.nsIn K mainGlobals "_law_odd" = some (some (.ref f_l_odd))) (l_l_odd : K.lookup f_l_odd = some ⟨oc_l_odd, od_l_odd, .func (PySem.W.fnOf "_law_odd" "_law_odd" (defArgs s_l_odd) (defBody s_l_odd) (defScope s_l_odd) .none kV_l_odd dc_l_odd pm_l_odd an_l_odd cd_l_odd ct_l_odd), sl_l_odd⟩) (h_l_odd : PySem.W.codeIn K cd_l_odd "_law_odd" = true) (k_l_odd : PySem.W.keepIn K (.ref f_l_odd) = true)
    {od_l_right an_l_right : Option Addr} {sl_l_right : Array (Option Value)} {oc_l_right kV_l_right dc_l_right pm_l_right cd_l_right ct_l_right : Value}
    (a_l_right : PySem.W.nsIn K mainGlobals "_law_right" = some (some (.ref f_l_right))) (l_l_right : K.lookup f_l_right = some ⟨oc_l_right, od_l_right, .func (PySem.W.fnOf "_law_right" "_law_right" (defArgs s_l_right) (defBody s_l_right) (defScope s_l_right) .none kV_l_right dc_l_right pm_l_right an_l_right cd_l_right ct_l_right), sl_l_right⟩) (h_l_right : PySem.W.codeIn K cd_l_right "_law_right" = true) (k_l_right : PySem.W.keepIn K (.ref f_l_right) = true)
    {od_law an_law : Option Addr} {sl_law : Array (Option Value)} {oc_law kV_law dc_law pm_law cd_law ct_law : Value}
    (a_law : PySem.W.nsIn K mainGlobals "law" = some (some (.ref f_law))) (l_law : K.lookup f_law = some ⟨oc_law, od_law, .func (PySem.W.fnOf "law" "law" (defArgs s_law) (defBody s_law) (defScope s_law) .none kV_law dc_law pm_law an_law cd_law ct_law), sl_law⟩) (h_law : PySem.W.codeIn K cd_law "law" = true) (k_law : PySem.W.keepIn K (.ref f_law) = true)
    (z_abs : PySem.W.nsIn K mainGlobals "abs" = some none)
    (z_all : PySem.W.nsIn K mainGlobals "all" = some none)
    (z_bool : PySem.W.nsIn K mainGlobals "bool" = some none)
    (z_int : PySem.W.nsIn K mainGlobals "int" = some none)
    (z_isinstance : PySem.W.nsIn K mainGlobals "isinstance" = some none)
    (z_len : PySem.W.nsIn K mainGlobals "len" = some none)
    (z_list : PySem.W.nsIn K mainGlobals "list" = some none)
    (z_max : PySem.W.nsIn K mainGlobals "max" = some none)
    (z_min : PySem.W.nsIn K mainGlobals "min" = some none)
    (z_range : PySem.W.nsIn K mainGlobals "range" = some none)
    (z_set : PySem.W.nsIn K mainGlobals "set" = some none)
    (z_sorted : PySem.W.nsIn K mainGlobals "sorted" = some none)
    (z_str : PySem.W.nsIn K mainGlobals "str" = some none)
    (z_sum : PySem.W.nsIn K mainGlobals "sum" = some none)
    (z_tuple : PySem.W.nsIn K mainGlobals "tuple" = some none)
    : ∃ fd : FuncData, (∀ (s : Shared) (v : Value), BindsTo s fd ⟨[v], []⟩ [("_law_script", v)]) ∧ ∀ base : Heap, K.In base → base.Ns mainGlobals mg → FnG l.prog w K mg base 8 fa fd ["_law_script"] (spF K m_law) := by
  have e := hfa.symm.trans (PySem.W.mg_of X G a_law)
  cases e
  have T : Txt K mg := ⟨PySem.W.mg_none_of X G z_abs, PySem.W.mg_none_of X G z_all, PySem.W.mg_none_of X G z_bool, PySem.W.mg_none_of X G z_int, PySem.W.mg_none_of X G z_isinstance, PySem.W.mg_none_of X G z_len, PySem.W.mg_none_of X G z_list, PySem.W.mg_none_of X G z_max, PySem.W.mg_none_of X G z_min, PySem.W.mg_none_of X G z_range, PySem.W.mg_none_of X G z_set, PySem.W.mg_none_of X G z_sorted, PySem.W.mg_none_of X G z_str, PySem.W.mg_none_of X G z_sum, PySem.W.mg_none_of X G z_tuple⟩
  have F_l_pot := fun_mk (st := s_l_pot) l_l_pot h_l_pot k_l_pot
  have g_l_pot := PySem.W.mg_of X G a_l_pot
  have F_l_take := fun_mk (st := s_l_take) l_l_take h_l_take k_l_take
  have g_l_take := PySem.W.mg_of X G a_l_take
  have F_l_places := fun_mk (st := s_l_places) l_l_places h_l_places k_l_places
  have g_l_places := PySem.W.mg_of X G a_l_places
  have F_l_pairs := fun_mk (st := s_l_pairs) l_l_pairs h_l_pairs k_l_pairs
  have g_l_pairs := PySem.W.mg_of X G a_l_pairs
  have F_l_web := fun_mk (st := s_l_web) l_l_web h_l_web k_l_web
  have g_l_web := PySem.W.mg_of X G a_l_web
  have F_members := fun_mk (st := s_members) l_members h_members k_members
  have g_members := PySem.W.mg_of X G a_members
  have F_around := fun_mk (st := s_around) l_around h_around k_around
  have g_around := PySem.W.mg_of X G a_around
  have F_outside := fun_mk (st := s_outside) l_outside h_outside k_outside
  have g_outside := PySem.W.mg_of X G a_outside
  have F_width_cost := fun_mk (st := s_width_cost) l_width_cost h_width_cost k_width_cost
  have g_width_cost := PySem.W.mg_of X G a_width_cost
  have F_near := fun_mk (st := s_near) l_near h_near k_near
  have g_near := PySem.W.mg_of X G a_near
  have F_ties_by_place := fun_mk (st := s_ties_by_place) l_ties_by_place h_ties_by_place k_ties_by_place
  have g_ties_by_place := PySem.W.mg_of X G a_ties_by_place
  have F_spread_cost := fun_mk (st := s_spread_cost) l_spread_cost h_spread_cost k_spread_cost
  have g_spread_cost := PySem.W.mg_of X G a_spread_cost
  have F_last_cost := fun_mk (st := s_last_cost) l_last_cost h_last_cost k_last_cost
  have g_last_cost := PySem.W.mg_of X G a_last_cost
  have F_are_numbers := fun_mk (st := s_are_numbers) l_are_numbers h_are_numbers k_are_numbers
  have g_are_numbers := PySem.W.mg_of X G a_are_numbers
  have F_shows_by := fun_mk (st := s_shows_by) l_shows_by h_shows_by k_shows_by
  have g_shows_by := PySem.W.mg_of X G a_shows_by
  have F_shows_width := fun_mk (st := s_shows_width) l_shows_width h_shows_width k_shows_width
  have g_shows_width := PySem.W.mg_of X G a_shows_width
  have F_shows_spread := fun_mk (st := s_shows_spread) l_shows_spread h_shows_spread k_shows_spread
  have g_shows_spread := PySem.W.mg_of X G a_shows_spread
  have F_l_pick := fun_mk (st := s_l_pick) l_l_pick h_l_pick k_l_pick
  have g_l_pick := PySem.W.mg_of X G a_l_pick
  have F_l_near := fun_mk (st := s_l_near) l_l_near h_l_near k_l_near
  have g_l_near := PySem.W.mg_of X G a_l_near
  have F_l_masks := fun_mk (st := s_l_masks) l_l_masks h_l_masks k_l_masks
  have g_l_masks := PySem.W.mg_of X G a_l_masks
  have F_l_costs := fun_mk (st := s_l_costs) l_l_costs h_l_costs k_l_costs
  have g_l_costs := PySem.W.mg_of X G a_l_costs
  have F_l_greatest := fun_mk (st := s_l_greatest) l_l_greatest h_l_greatest k_l_greatest
  have g_l_greatest := PySem.W.mg_of X G a_l_greatest
  have F_l_odd := fun_mk (st := s_l_odd) l_l_odd h_l_odd k_l_odd
  have g_l_odd := PySem.W.mg_of X G a_l_odd
  have F_l_right := fun_mk (st := s_l_right) l_l_right h_l_right k_l_right
  have g_l_right := PySem.W.mg_of X G a_l_right
  have F_law := fun_mk (st := s_law) l_law h_law k_law
  have g_law := PySem.W.mg_of X G a_law
  refine ⟨PySem.W.fnOf "law" "law" (defArgs s_law) (defBody s_law) (defScope s_law) .none kV_law dc_law pm_law an_law cd_law ct_law, fun s v => .of_eq rfl, fun base _ _ => ?_⟩
  have C_l_pot : Cal l.prog w K mg base 1 "_law_pot" m_l_pot := c_l_pot T F_l_pot g_l_pot 
  have C_l_take : Cal l.prog w K mg base 1 "_law_take" m_l_take := c_l_take T F_l_take g_l_take 
  have C_l_places : Cal l.prog w K mg base 2 "_law_places" m_l_places := c_l_places T F_l_places g_l_places C_l_take
  have C_l_pairs : Cal l.prog w K mg base 2 "_law_pairs" m_l_pairs := c_l_pairs T F_l_pairs g_l_pairs C_l_take
  have C_l_web : Cal l.prog w K mg base 3 "_law_web" m_l_web := c_l_web T F_l_web g_l_web C_l_places C_l_pairs
  have C_members : Cal l.prog w K mg base 1 "members" m_members := c_members T F_members g_members 
  have C_around : Cal l.prog w K mg base 2 "around" m_around := c_around T F_around g_around C_members
  have C_outside : Cal l.prog w K mg base 1 "outside" m_outside := c_outside T F_outside g_outside 
  have C_width_cost : Cal l.prog w K mg base 3 "width_cost" m_width_cost := c_width_cost T F_width_cost g_width_cost C_members C_around C_outside
  have O_width_cost := CalO.of C_width_cost a_width_cost g_width_cost
  have C_near : Cal l.prog w K mg base 1 "near" m_near := c_near T F_near g_near 
  have C_ties_by_place : Cal l.prog w K mg base 2 "ties_by_place" m_ties_by_place := c_ties_by_place T F_ties_by_place g_ties_by_place C_near
  have C_spread_cost : Cal l.prog w K mg base 2 "spread_cost" m_spread_cost := c_spread_cost T F_spread_cost g_spread_cost C_members C_outside
  have O_spread_cost := CalO.of C_spread_cost a_spread_cost g_spread_cost
  have C_last_cost : Cal l.prog w K mg base 4 "last_cost" m_last_cost := c_last_cost T F_last_cost g_last_cost C_width_cost C_spread_cost O_width_cost O_spread_cost
  have C_are_numbers : Cal l.prog w K mg base 1 "are_numbers" m_are_numbers := c_are_numbers T F_are_numbers g_are_numbers 
  have C_shows_by : Cal l.prog w K mg base 5 "shows_by" m_shows_by := c_shows_by T F_shows_by g_shows_by C_ties_by_place C_members C_last_cost C_are_numbers
  have C_shows_width : Cal l.prog w K mg base 6 "shows_width" m_shows_width := c_shows_width T F_shows_width g_shows_width C_width_cost C_shows_by O_width_cost
  have O_shows_width := CalO.of C_shows_width a_shows_width g_shows_width
  have C_shows_spread : Cal l.prog w K mg base 6 "shows_spread" m_shows_spread := c_shows_spread T F_shows_spread g_shows_spread C_spread_cost C_shows_by O_spread_cost
  have O_shows_spread := CalO.of C_shows_spread a_shows_spread g_shows_spread
  have C_l_pick : Cal l.prog w K mg base 2 "_law_pick" m_l_pick := c_l_pick T F_l_pick g_l_pick C_l_take
  have C_l_near : Cal l.prog w K mg base 1 "_law_near" m_l_near := c_l_near T F_l_near g_l_near 
  have C_l_masks : Cal l.prog w K mg base 2 "_law_masks" m_l_masks := c_l_masks T F_l_masks g_l_masks C_l_near
  have C_l_costs : Cal l.prog w K mg base 3 "_law_costs" m_l_costs := c_l_costs T F_l_costs g_l_costs C_l_masks
  have C_l_greatest : Cal l.prog w K mg base 1 "_law_greatest" m_l_greatest := c_l_greatest T F_l_greatest g_l_greatest 
  have C_l_odd : Cal l.prog w K mg base 3 "_law_odd" m_l_odd := c_l_odd T F_l_odd g_l_odd C_l_take C_l_pick
  have C_l_right : Cal l.prog w K mg base 7 "_law_right" m_l_right := c_l_right T F_l_right g_l_right C_shows_width C_shows_spread C_l_pick C_l_costs C_l_greatest C_l_odd O_shows_width O_shows_spread
  exact o_law T F_law C_l_pot C_l_take C_l_web C_l_right
end Z
open PySem PySem.W PyProof.Rows
set_option maxHeartbeats 0 in
theorem PySem.Challenge.cw_drawnweb_k28_what_is_no_table_holds : PySem.Challenge.rw_drawnweb_k28_what_is_no_table.Holds := by
  w_on; o_law; k_head; (case hw => w_witness2)
  k_fill
  refine MV.walkG (l := PySem.Challenge.rw_drawnweb_k28_what_is_no_table) (n := 63) (k := 8) (x := "_law_script") (sp := fun w => MV.spF _ Z.m_law) rfl (by decide) rfl ⟨rfl, by decide, by decide⟩ (fun w h Y => PySem.W.kIn_of Y) ?F (fun _ H a ns hl hO hS => MV.law_sp (fun ns hl => Z.law_true ns hl) H a ns hl hO hS)
  case F =>
    intro w mg fa h KX G hmg
    refine' Z.all_mk KX G hmg ?a_l_pot ?l_l_pot ?h_l_pot ?k_l_pot ?a_l_take ?l_l_take ?h_l_take ?k_l_take ?a_l_places ?l_l_places ?h_l_places ?k_l_places ?a_l_pairs ?l_l_pairs ?h_l_pairs ?k_l_pairs ?a_l_web ?l_l_web ?h_l_web ?k_l_web ?a_members ?l_members ?h_members ?k_members ?a_around ?l_around ?h_around ?k_around ?a_outside ?l_outside ?h_outside ?k_outside ?a_width_cost ?l_width_cost ?h_width_cost ?k_width_cost ?a_near ?l_near ?h_near ?k_near ?a_ties_by_place ?l_ties_by_place ?h_ties_by_place ?k_ties_by_place ?a_spread_cost ?l_spread_cost ?h_spread_cost ?k_spread_cost ?a_last_cost ?l_last_cost ?h_last_cost ?k_last_cost ?a_are_numbers ?l_are_numbers ?h_are_numbers ?k_are_numbers ?a_shows_by ?l_shows_by ?h_shows_by ?k_shows_by ?a_shows_width ?l_shows_width ?h_shows_width ?k_shows_width ?a_shows_spread ?l_shows_spread ?h_shows_spread ?k_shows_spread ?a_l_pick ?l_l_pick ?h_l_pick ?k_l_pick ?a_l_near ?l_l_near ?h_l_near ?k_l_near ?a_l_masks ?l_l_masks ?h_l_masks ?k_l_masks ?a_l_costs ?l_l_costs ?h_l_costs ?k_l_costs ?a_l_greatest ?l_l_greatest ?h_l_greatest ?k_l_greatest ?a_l_odd ?l_l_odd ?h_l_odd ?k_l_odd ?a_l_right ?l_l_right ?h_l_right ?k_l_right ?a_law ?l_law ?h_law ?k_law ?z_abs ?z_all ?z_bool ?z_int ?z_isinstance ?z_len ?z_list ?z_max ?z_min ?z_range ?z_set ?z_sorted ?z_str ?z_sum ?z_tuple
    (case a_l_pot => k_is)
    (case l_l_pot => k_is)
    (case h_l_pot => k_is)
    (case k_l_pot => k_is)
    (case a_l_take => k_is)
    (case l_l_take => k_is)
    (case h_l_take => k_is)
    (case k_l_take => k_is)
    (case a_l_places => k_is)
    (case l_l_places => k_is)
    (case h_l_places => k_is)
    (case k_l_places => k_is)
    (case a_l_pairs => k_is)
    (case l_l_pairs => k_is)
    (case h_l_pairs => k_is)
    (case k_l_pairs => k_is)
    (case a_l_web => k_is)
    (case l_l_web => k_is)
    (case h_l_web => k_is)
    (case k_l_web => k_is)
    (case a_members => k_is)
    (case l_members => k_is)
    (case h_members => k_is)
    (case k_members => k_is)
    (case a_around => k_is)
    (case l_around => k_is)
    (case h_around => k_is)
    (case k_around => k_is)
    (case a_outside => k_is)
    (case l_outside => k_is)
    (case h_outside => k_is)
    (case k_outside => k_is)
    (case a_width_cost => k_is)
    (case l_width_cost => k_is)
    (case h_width_cost => k_is)
    (case k_width_cost => k_is)
    (case a_near => k_is)
    (case l_near => k_is)
    (case h_near => k_is)
    (case k_near => k_is)
    (case a_ties_by_place => k_is)
    (case l_ties_by_place => k_is)
    (case h_ties_by_place => k_is)
    (case k_ties_by_place => k_is)
    (case a_spread_cost => k_is)
    (case l_spread_cost => k_is)
    (case h_spread_cost => k_is)
    (case k_spread_cost => k_is)
    (case a_last_cost => k_is)
    (case l_last_cost => k_is)
    (case h_last_cost => k_is)
    (case k_last_cost => k_is)
    (case a_are_numbers => k_is)
    (case l_are_numbers => k_is)
    (case h_are_numbers => k_is)
    (case k_are_numbers => k_is)
    (case a_shows_by => k_is)
    (case l_shows_by => k_is)
    (case h_shows_by => k_is)
    (case k_shows_by => k_is)
    (case a_shows_width => k_is)
    (case l_shows_width => k_is)
    (case h_shows_width => k_is)
    (case k_shows_width => k_is)
    (case a_shows_spread => k_is)
    (case l_shows_spread => k_is)
    (case h_shows_spread => k_is)
    (case k_shows_spread => k_is)
    (case a_l_pick => k_is)
    (case l_l_pick => k_is)
    (case h_l_pick => k_is)
    (case k_l_pick => k_is)
    (case a_l_near => k_is)
    (case l_l_near => k_is)
    (case h_l_near => k_is)
    (case k_l_near => k_is)
    (case a_l_masks => k_is)
    (case l_l_masks => k_is)
    (case h_l_masks => k_is)
    (case k_l_masks => k_is)
    (case a_l_costs => k_is)
    (case l_l_costs => k_is)
    (case h_l_costs => k_is)
    (case k_l_costs => k_is)
    (case a_l_greatest => k_is)
    (case l_l_greatest => k_is)
    (case h_l_greatest => k_is)
    (case k_l_greatest => k_is)
    (case a_l_odd => k_is)
    (case l_l_odd => k_is)
    (case h_l_odd => k_is)
    (case k_l_odd => k_is)
    (case a_l_right => k_is)
    (case l_l_right => k_is)
    (case h_l_right => k_is)
    (case k_l_right => k_is)
    (case a_law => k_is)
    (case l_law => k_is)
    (case h_law => k_is)
    (case k_law => k_is)
    (case z_abs => k_is)
    (case z_all => k_is)
    (case z_bool => k_is)
    (case z_int => k_is)
    (case z_isinstance => k_is)
    (case z_len => k_is)
    (case z_list => k_is)
    (case z_max => k_is)
    (case z_min => k_is)
    (case z_range => k_is)
    (case z_set => k_is)
    (case z_sorted => k_is)
    (case z_str => k_is)
    (case z_sum => k_is)
    (case z_tuple => k_is)
