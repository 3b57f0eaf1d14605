import PyProof.Rows.All
import Wide.All
import OpenK.AllK
import Wide.FinOn
import HandS.ForMost
import HandS.Wide
import HandS.Deep
import HandS.Walk
import HandS.Zip
import HandS.TupAny
import HandS.Flow
import HandS.IsInst
import PyProof.Rows.RuleB_pow
import HandS.Conv
import HandS.SortInts
import HandS.More
import KE.SortData
import HandS.Sort
import PyProof.TupleOfSeq
import HandS.Remove
import HandS.SetFor
import HandS.Style
import HandS.RaiseMore
import PyProof.ReprRoads
import HandS.Zip0
import KE.KDictZip
import HandS.TupSets
import KE.DataFind
import PySem.Challenge.RW_drawnweb_k12_alike
set_option Elab.async false
set_option linter.all false
set_option maxRecDepth 100000
/-! Mirror values: what a value, a container, a frame stand for, and the readings that a mirror gives. -/
namespace MV
open PySem PySem.Spec PyProof.Rows L2
abbrev Frg := PySem.W.Frag

/-! ### the mirror's world -/
inductive Cell where
  | lst (xs : List PyData)
  | dic (kvs : List (PyData × PyData))
inductive Val where
  /-- a datum -/
  | d (x : PyData)
  /-- the n-th cell of the store -/
  | c (n : Nat)
  /-- a container just made, not yet in the store -/
  | f (k : Cell)
  /-- a list that stands locked (the script) -/
  | z (xs : List PyData)
structure Exn where
  name : Str
  fs : List (Str × PyData)
abbrev Sto := List Cell
abbrev Envi := List (Option Val)
inductive Res (α : Type) where
  | ok (a : α) (S : Sto)
  | exc (e : Exn) (S : Sto)
  | no
def Cell.data : Cell → PyData
  | .lst xs => .list xs
  | .dic kvs => .dict kvs
def Val.th : Val → Val
  | .f k => .d k.data
  | v => v
def Res.bind {α β : Type} (r : Res α) (g : α → Sto → Res β) : Res β := match r with
  | .ok a S => g a S
  | .exc e S => .exc e S
  | .no => .no

/-! ### what stands for what -/
def KTup (K : Frg) (a : Addr) (xs : List V) : Prop := SqT K (fun _ => none) a xs
def LstAt (A : List Addr) (H : Hp) (a : Addr) (xs : List V) : Prop := H a = some (.lst xs) ∧ a ∉ A
def TupAt (K : Frg) (A : List Addr) (H : Hp) (a : Addr) (xs : List V) : Prop := (Rd H a (.tup xs) ∧ a ∉ A) ∨ KTup K a xs
def kD : Key → PyData
  | .inl i => .int i
  | .inr x => .str x
mutual
inductive Rp (K : Frg) (A : List Addr) (H : Hp) : V → PyData → Prop
  | non : Rp K A H .non .none
  | bl (b : Bool) : Rp K A H (.bl b) (.bool b)
  | int (i : Int) : Rp K A H (.int i) (.int i)
  | str (x : Str) : Rp K A H (.str x) (.str x)
  | lst {a : Addr} {xs : List V} {ds : List PyData} : LstAt A H a xs → RpL K A H xs ds → Rp K A H (.ref a) (.list ds)
  | tup {a : Addr} {xs : List V} {ds : List PyData} : TupAt K A H a xs → RpL K A H xs ds → Rp K A H (.ref a) (.tuple ds)
  | dic {a : Addr} {kvs : List (Key × V)} {ps : List (PyData × PyData)} : H a = some (.dK kvs) → a ∉ A → RpD K A H kvs ps → Rp K A H (.ref a) (.dict ps)
inductive RpL (K : Frg) (A : List Addr) (H : Hp) : List V → List PyData → Prop
  | nil : RpL K A H [] []
  | cons {v : V} {vs : List V} {d : PyData} {ds : List PyData} : Rp K A H v d → RpL K A H vs ds → RpL K A H (v :: vs) (d :: ds)
inductive RpD (K : Frg) (A : List Addr) (H : Hp) : List (Key × V) → List (PyData × PyData) → Prop
  | nil : RpD K A H [] []
  | cons {k : Key} {v : V} {kvs : List (Key × V)} {d : PyData} {ps : List (PyData × PyData)} : Rp K A H v d → RpD K A H kvs ps → RpD K A H ((k, v) :: kvs) ((kD k, d) :: ps)
end

abbrev upd1 := @L2.upd
/-- what was read off A stays, and stands off A' -/
def Kp (A : List Addr) (H : Hp) (A' : List Addr) (H' : Hp) : Prop := ∀ b o, H b = some o → b ∉ A → H' b = some o ∧ b ∉ A'
section
variable {K : Frg} {A A' A2 : List Addr} {H H' H2 : Hp} {a : Addr} {xs : List V}
theorem Kp.rd {u : HO} (k : Kp A H A' H') (r : Rd H a u) (n : a ∉ A) : Rd H' a u ∧ a ∉ A' := by
  rcases r with r | ⟨o, r⟩
  · exact ⟨.inl (k _ _ r n).1, (k _ _ r n).2⟩
  · exact ⟨.inr ⟨o, (k _ _ r n).1⟩, (k _ _ r n).2⟩
theorem LstAt.mono (k : Kp A H A' H') (h : LstAt A H a xs) : LstAt A' H' a xs := k _ _ h.1 h.2
theorem TupAt.mono (k : Kp A H A' H') (h : TupAt K A H a xs) : TupAt K A' H' a xs := by
  rcases h with ⟨r, n⟩ | h
  · exact .inl (k.rd r n)
  · exact .inr h
mutual
theorem Rp.mono (k : Kp A H A' H') : ∀ {v : V} {d : PyData}, Rp K A H v d → Rp K A' H' v d
  | _, _, .non => .non
  | _, _, .bl b => .bl b
  | _, _, .int i => .int i
  | _, _, .str x => .str x
  | _, _, .lst h t => .lst (h.mono k) (RpL.mono k t)
  | _, _, .tup h t => .tup (h.mono k) (RpL.mono k t)
  | _, _, .dic h n t => .dic (k _ _ h n).1 (k _ _ h n).2 (RpD.mono k t)
theorem RpL.mono (k : Kp A H A' H') : ∀ {v : List V} {d : List PyData}, RpL K A H v d → RpL K A' H' v d
  | _, _, .nil => .nil
  | _, _, .cons h t => .cons (Rp.mono k h) (RpL.mono k t)
theorem RpD.mono (k : Kp A H A' H') : ∀ {v : List (Key × V)} {d : List (PyData × PyData)}, RpD K A H v d → RpD K A' H' v d
  | _, _, .nil => .nil
  | _, _, .cons h t => .cons (Rp.mono k h) (RpD.mono k t)
end
theorem ktup_seq (h : KTup K a xs) : SqT K H a xs := by
  rcases h with (h | ⟨o, h⟩) | h
  · cases h
  · cases h
  · exact .inr h
theorem klst_seq (h : SqL K (fun _ => none) a xs) : SqL K H a xs := by
  rcases h with (h | ⟨o, h⟩) | h
  · cases h
  · cases h
  · exact .inr h
theorem LstAt.seq (h : LstAt A H a xs) : SqL K H a xs := .inl (.inl h.1)
theorem TupAt.seq (h : TupAt K A H a xs) : SqT K H a xs := by
  rcases h with ⟨h, _⟩ | h
  · exact .inl h
  · exact ktup_seq h
end
section
variable {K : Frg} {A : List Addr} {H : Hp}
theorem RpL.length : ∀ {xs : List V} {ds : List PyData}, RpL K A H xs ds → xs.length = ds.length
  | _, _, .nil => rfl
  | _, _, .cons _ t => by rw [List.length_cons, List.length_cons, RpL.length t]
theorem RpL.get : ∀ {xs : List V} {ds : List PyData} {i : Nat} {d : PyData}, RpL K A H xs ds → ds[i]? = some d → ∃ v, xs[i]? = some v ∧ Rp K A H v d
  | _, _, i, d, .nil, h => by simp at h
  | _, _, 0, d, .cons r _, h => by simp at h; subst h; exact ⟨_, rfl, r⟩
  | _, _, i + 1, d, .cons _ t, h => RpL.get (i := i) t (by simpa using h)
theorem RpL.getV : ∀ {xs : List V} {ds : List PyData} {i : Nat} {v : V}, RpL K A H xs ds → xs[i]? = some v → ∃ d, ds[i]? = some d ∧ Rp K A H v d
  | _, _, i, d, .nil, h => by simp at h
  | _, _, 0, d, .cons r _, h => by simp at h; subst h; exact ⟨_, rfl, r⟩
  | _, _, i + 1, d, .cons _ t, h => RpL.getV (i := i) t (by simpa using h)
theorem RpL.append : ∀ {xs ys : List V} {ds es : List PyData}, RpL K A H xs ds → RpL K A H ys es → RpL K A H (xs ++ ys) (ds ++ es)
  | _, _, _, _, .nil, t => t
  | _, _, _, _, .cons r s, t => .cons r (RpL.append s t)
theorem RpL.take : ∀ {xs : List V} {ds : List PyData} (n : Nat), RpL K A H xs ds → RpL K A H (xs.take n) (ds.take n)
  | _, _, 0, _ => by simp; exact .nil
  | _, _, _ + 1, .nil => by simp; exact .nil
  | _, _, n + 1, .cons r t => .cons r (RpL.take n t)
theorem RpL.drop : ∀ {xs : List V} {ds : List PyData} (n : Nat), RpL K A H xs ds → RpL K A H (xs.drop n) (ds.drop n)
  | _, _, 0, h => h
  | _, _, _ + 1, .nil => by simp; exact .nil
  | _, _, n + 1, .cons _ t => RpL.drop n t
theorem RpL.set {v : V} {d : PyData} (r : Rp K A H v d) : ∀ {xs : List V} {ds : List PyData} (n : Nat), RpL K A H xs ds → RpL K A H (xs.set n v) (ds.set n d)
  | _, _, _, .nil => .nil
  | _, _, 0, .cons _ t => .cons r t
  | _, _, n + 1, .cons q t => .cons q (RpL.set r n t)
theorem RpL.eraseIdx : ∀ {xs : List V} {ds : List PyData} (n : Nat), RpL K A H xs ds → RpL K A H (xs.eraseIdx n) (ds.eraseIdx n)
  | _, _, _, .nil => .nil
  | _, _, 0, .cons _ t => t
  | _, _, n + 1, .cons q t => .cons q (RpL.eraseIdx n t)
theorem RpL.reverse {xs : List V} {ds : List PyData} (h : RpL K A H xs ds) : RpL K A H xs.reverse ds.reverse := by
  induction xs generalizing ds with
  | nil => cases h; exact .nil
  | cons x xs ih => cases h with | cons r t => rw [List.reverse_cons, List.reverse_cons]; exact (ih t).append (.cons r .nil)
theorem RpL.dropLast {xs : List V} {ds : List PyData} (h : RpL K A H xs ds) : RpL K A H xs.dropLast ds.dropLast := by
  rw [List.dropLast_eq_take, List.dropLast_eq_take, h.length]; exact h.take _
theorem RpL.ints : ∀ {xs : List V} {ns : List Int}, RpL K A H xs (ns.map PyData.int) → xs = ns.map V.int
  | _, [], h => by cases h; rfl
  | _, n :: ns, h => by
    have h' : RpL K A H _ (PyData.int n :: ns.map PyData.int) := h
    cases h' with | cons r t => cases r; rw [List.map_cons, RpL.ints t]
theorem RpL.bls : ∀ {xs : List V} {ns : List Bool}, RpL K A H xs (ns.map PyData.bool) → xs = ns.map V.bl
  | _, [], h => by cases h; rfl
  | _, n :: ns, h => by
    have h' : RpL K A H _ (PyData.bool n :: ns.map PyData.bool) := h
    cases h' with | cons r t => cases r; rw [List.map_cons, RpL.bls t]
theorem RpL.of_ints : ∀ (ns : List Int), RpL K A H (ns.map V.int) (ns.map PyData.int)
  | [] => .nil
  | n :: ns => .cons (.int n) (RpL.of_ints ns)
mutual
theorem Rp.dp : ∀ (d : PyData) (v : V), d.canLay0 = true → Rp K A H v d → Dp K H v d
  | .none, _, _, h => by cases h; exact .non
  | .bool b, _, _, h => by cases h; exact .bl b
  | .int i, _, _, h => by cases h; exact .int i
  | .str x, _, _, h => by cases h; exact .str x
  | .list ds, _, c, h => by
    cases h with | lst l t => exact .lst l.seq (RpL.dp ds _ (by simpa [PyData.canLay0] using c) t)
  | .tuple ds, _, c, h => by
    cases h with | tup l t => exact .tup l.seq (RpL.dp ds _ (by simpa [PyData.canLay0] using c) t)
  | .dict _, _, c, _ => by simp [PyData.canLay0] at c
theorem RpL.dp : ∀ (ds : List PyData) (vs : List V), PyData.canLayAll0 ds = true → RpL K A H vs ds → DpAll K H vs ds
  | [], _, _, h => by cases h; exact .nil
  | d :: ds, _, c, h => by
    have c' : d.canLay0 = true ∧ PyData.canLayAll0 ds = true := by simpa [PyData.canLayAll0] using c
    cases h with | cons r t => exact .cons (Rp.dp d _ c'.1 r) (RpL.dp ds _ c'.2 t)
end
end

/-! ### the store -/
/-- the cells' addresses; those of lists that a comprehension is making -/
structure Wd where
  A : List Addr
  P : List Addr
def Wd.V (W : Wd) : List Addr := W.P ++ W.A
def Wd.push (W : Wd) (a : Addr) : Wd := ⟨W.A ++ [a], W.P⟩
def Wd.prot (W : Wd) (a : Addr) : Wd := ⟨W.A, a :: W.P⟩
def CellOk (K : Frg) (W : Wd) (H : Hp) (a : Addr) : Cell → Prop
  | .lst ds => ∃ xs, H a = some (.lst xs) ∧ RpL K W.V H xs ds
  | .dic ps => ∃ kvs, H a = some (.dK kvs) ∧ RpD K W.V H kvs ps
structure Wf (K : Frg) (W : Wd) (S : Sto) (H : Hp) : Prop where
  len : W.A.length = S.length
  nd : W.A.Nodup
  ok : ∀ (n : Nat) (a : Addr) (k : Cell), W.A[n]? = some a → S[n]? = some k → CellOk K W H a k
  pr : ∀ p ∈ W.P, p ∉ W.A ∧ ∃ o, H p = some o ∧ Mut (some o)
def Rv (K : Frg) (W : Wd) (H : Hp) (v : V) : Val → Prop
  | .d x => Rp K W.V H v x
  | .c n => ∃ a, W.A[n]? = some a ∧ v = .ref a
  | .f _ => False
  | .z ds => ∃ a xs, v = .ref a ∧ ((Rd H a (.lst xs) ∧ a ∉ W.V) ∨ SqL K (fun _ => none) a xs) ∧ RpL K W.V H xs ds
structure REnv (K : Frg) (W : Wd) (H : Hp) (ρ : Envi) (σ : L2.St) : Prop where
  len : σ.length = ρ.length
  get : ∀ (i : Nat) (v : Val), ρ[i]? = some (some v) → ∃ x, σ[i]? = some (some x) ∧ Rv K W H x v
structure Ext (W : Wd) (H : Hp) (W' : Wd) (H' : Hp) : Prop where
  pr : W'.P = W.P
  pre : ∃ B, W'.A = W.A ++ B
  new : ∀ a ∈ W'.A, a ∈ W.A ∨ H a = none
  keep : ∀ b o, H b = some o → b ∉ W.A → H' b = some o
section
variable {K : Frg} {W W' W2 : Wd} {H H' H2 : Hp} {a : Addr} {S S' : Sto} {ρ : Envi} {σ : L2.St}
theorem Wd.mem {b : Addr} : b ∈ W.V ↔ b ∈ W.P ∨ b ∈ W.A := List.mem_append
theorem Ext.kp (e : Ext W H W' H') : Kp W.V H W'.V H' := fun b o h n => by
  rw [Wd.mem, not_or] at n
  refine ⟨e.keep b o h n.2, fun m => ?_⟩
  rcases Wd.mem.mp m with q | q
  · rw [e.pr] at q; exact n.1 q
  · rcases e.new b q with q | q
    · exact n.2 q
    · rw [h] at q; cases q
theorem Ext.refl : Ext W H W H := ⟨rfl, ⟨[], by simp⟩, fun _ h => .inl h, fun _ _ h _ => h⟩
theorem Ext.offA (e : Ext W H W' H') {b : Addr} {o : HO} (h : H b = some o) (n : b ∉ W.A) : b ∉ W'.A := fun q => by
  rcases e.new b q with q | q
  · exact n q
  · rw [h] at q; cases q
theorem Ext.trans (e : Ext W H W' H') (f : Ext W' H' W2 H2) : Ext W H W2 H2 := by
  refine ⟨f.pr.trans e.pr, ?_, fun a h => ?_, fun b o h n => f.keep b o (e.keep b o h n) (e.offA h n)⟩
  · obtain ⟨B, h1⟩ := e.pre
    obtain ⟨C, h2⟩ := f.pre
    exact ⟨B ++ C, by rw [h2, h1, List.append_assoc]⟩
  · rcases f.new a h with q | q
    · exact e.new a q
    · cases r : H a with
      | none => exact .inr rfl
      | some o =>
        by_cases m : a ∈ W.A
        · exact .inl m
        · rw [e.keep a o r m] at q; cases q
theorem Ext.at_ (e : Ext W H W' H') {n : Nat} (h : W.A[n]? = some a) : W'.A[n]? = some a := by
  obtain ⟨B, e1⟩ := e.pre
  rw [e1, List.getElem?_append_left (List.getElem?_eq_some_iff.mp h).1]; exact h
theorem Rv.mono {v : V} {x : Val} (e : Ext W H W' H') (r : Rv K W H v x) : Rv K W' H' v x := by
  cases x with
  | d x => exact Rp.mono e.kp r
  | c n => obtain ⟨a, h, rfl⟩ := r; exact ⟨a, e.at_ h, rfl⟩
  | f k => exact r
  | z ds => obtain ⟨a, xs, rfl, h, t⟩ := r; exact ⟨a, xs, rfl, h.imp (fun q => e.kp.rd q.1 q.2) id, t.mono e.kp⟩
theorem REnv.mono (e : Ext W H W' H') (r : REnv K W H ρ σ) : REnv K W' H' ρ σ := ⟨r.len, fun i v h => by
  obtain ⟨x, h1, h2⟩ := r.get i v h
  exact ⟨x, h1, h2.mono e⟩⟩
theorem Wf.there (w : Wf K W S H) (h : a ∈ W.V) : ∃ o, H a = some o ∧ Mut (some o) := by
  rcases Wd.mem.mp h with h | h
  · obtain ⟨_, xs, q, mt⟩ := w.pr a h
    exact ⟨_, q, mt⟩
  obtain ⟨n, hn, e⟩ := List.mem_iff_getElem.mp h
  have hs : n < S.length := by rw [← w.len]; exact hn
  have q := w.ok n a S[n] (by rw [List.getElem?_eq_getElem hn, e]) (List.getElem?_eq_getElem hs)
  cases hk : S[n] with
  | lst ds => rw [hk] at q; obtain ⟨xs, h, _⟩ := q; exact ⟨_, h, trivial⟩
  | dic ds => rw [hk] at q; obtain ⟨xs, h, _⟩ := q; exact ⟨_, h, trivial⟩
theorem Wf.off (w : Wf K W S H) (h : H a = none) : a ∉ W.V := fun m => by
  obtain ⟨o, q, _⟩ := w.there m
  rw [h] at q; cases q
theorem Wf.offA (w : Wf K W S H) (h : H a = none) : a ∉ W.A := fun m => w.off h (Wd.mem.mpr (.inr m))
theorem Ext.free (e : Ext W H W' H') (w : Wf K W' S' H') (h : H' a = none) : H a = none := by
  cases q : H a with
  | none => rfl
  | some o =>
    exfalso
    by_cases m : a ∈ W.A
    · obtain ⟨B, e1⟩ := e.pre
      exact w.offA h (by rw [e1]; exact List.mem_append_left _ m)
    · rw [e.keep a o q m] at h; cases h
/-- a new thing is laid -/
theorem Ext.laid {o : HO} (h : H a = none) : Ext W H W (upd H a o) := ⟨rfl, ⟨[], by simp⟩, fun _ h => .inl h, fun b u e _ => by rw [upd_ne (ne_of_none e h)]; exact e⟩
theorem CellOk.mono {k : Cell} (e : Kp W.V H W'.V H') (hk : ∀ o, H a = some o → H' a = some o) (c : CellOk K W H a k) : CellOk K W' H' a k := by
  cases k with
  | lst ds => obtain ⟨xs, h, r⟩ := c; exact ⟨xs, hk _ h, r.mono e⟩
  | dic ds => obtain ⟨xs, h, r⟩ := c; exact ⟨xs, hk _ h, r.mono e⟩
theorem Wf.laid (w : Wf K W S H) {o : HO} (h : H a = none) : Wf K W S (upd H a o) := ⟨w.len, w.nd, fun n b k h1 h2 =>
  (w.ok n b k h1 h2).mono (Ext.laid h).kp fun u e => by rw [upd_ne (ne_of_none e h)]; exact e, fun p hp => by
    obtain ⟨q, xs, e, mt⟩ := w.pr p hp
    exact ⟨q, xs, by rw [upd_ne (ne_of_none e h)]; exact e, mt⟩⟩
theorem kp_less (h : ∀ b, b ∈ W'.V → b ∈ W.V) : Kp W.V H W'.V H := fun b _ q n => ⟨q, fun m => n (h b m)⟩
theorem push_V {b : Addr} : b ∈ (W.push a).V ↔ b ∈ W.V ∨ b = a := by
  rw [Wd.mem, Wd.mem]
  show b ∈ W.P ∨ b ∈ W.A ++ [a] ↔ _
  rw [List.mem_append, List.mem_singleton, or_assoc]
theorem prot_V {b : Addr} : b ∈ (W.prot a).V ↔ b ∈ W.V ∨ b = a := by
  rw [Wd.mem, Wd.mem]
  show b ∈ a :: W.P ∨ b ∈ W.A ↔ _
  rw [List.mem_cons]
  constructor
  · rintro ((h | h) | h)
    · exact .inr h
    · exact .inl (.inl h)
    · exact .inl (.inr h)
  · rintro ((h | h) | h)
    · exact .inl (.inr h)
    · exact .inr h
    · exact .inl (.inl h)
/-- one more cell -/
theorem Wf.drop1 {k : Cell} (w : Wf K (W.push a) (S ++ [k]) H) : Wf K W S H ∧ CellOk K W H a k ∧ a ∉ W.V := by
  have hl : W.A.length = S.length := by simpa [Wd.push] using w.len
  have ka : Kp (W.push a).V H W.V H := kp_less fun b m => push_V.mpr (.inl m)
  have nd := w.nd
  unfold Wd.push at nd
  dsimp only at nd
  rw [List.nodup_append] at nd
  refine ⟨⟨hl, nd.1, fun n b u h1 h2 => ?_, fun p hp => ?_⟩, ?_, fun m => ?_⟩
  · refine (w.ok n b u ?_ ?_).mono ka fun _ h => h
    · show (W.A ++ [a])[n]? = _
      rw [List.getElem?_append_left (List.getElem?_eq_some_iff.mp h1).1]; exact h1
    · rw [List.getElem?_append_left (List.getElem?_eq_some_iff.mp h2).1]; exact h2
  · obtain ⟨q, r⟩ := w.pr p hp
    exact ⟨fun m => q (List.mem_append_left _ m), r⟩
  · exact (w.ok W.A.length a k (by simp [Wd.push]) (by rw [hl]; simp)).mono ka fun _ h => h
  · rcases Wd.mem.mp m with m | m
    · exact (w.pr a m).1 (List.mem_append_right _ (by simp))
    · exact nd.2.2 a m a (by simp) rfl
theorem Cell.th {k : Cell} (c : CellOk K W H a k) (n : a ∉ W.V) : Rp K W.V H (.ref a) (Cell.data k) := by
  cases k with
  | lst ds => obtain ⟨xs, h, r⟩ := c; exact .lst ⟨h, n⟩ r
  | dic ds => obtain ⟨xs, h, r⟩ := c; exact .dic h n r
theorem Ext.push (h : H a = none) (w : Wf K W S H) {o : HO} : Ext W H (W.push a) (upd H a o) := by
  refine ⟨rfl, ⟨[a], rfl⟩, fun b m => ?_, fun b u e _ => by rw [upd_ne (ne_of_none e h)]; exact e⟩
  rcases List.mem_append.mp m with m | m
  · exact .inl m
  · rw [List.mem_singleton.mp m]; exact .inr h
theorem Ext.grow (e : Ext W H W H') (h : H a = none) : Ext W H (W.push a) H' := by
  refine ⟨rfl, ⟨[a], rfl⟩, fun b m => ?_, e.keep⟩
  rcases List.mem_append.mp m with m | m
  · exact .inl m
  · rw [List.mem_singleton.mp m]; exact .inr h
/-- a new cell is laid -/
theorem Wf.new {k : Cell} {o : HO} (w : Wf K W S H) (h : H a = none) (c : CellOk K (W.push a) (upd1 H a o) a k) : Wf K (W.push a) (S ++ [k]) (upd1 H a o) := by
  refine ⟨by simp [Wd.push, w.len], ?_, fun n b u h1 h2 => ?_, fun p hp => ?_⟩
  · show (W.A ++ [a]).Nodup
    rw [List.nodup_append]
    exact ⟨w.nd, by simp, fun x hx y hy e => by rw [List.mem_singleton.mp hy] at e; exact w.offA h (e ▸ hx)⟩
  · have h1' : (W.A ++ [a])[n]? = some b := h1
    by_cases hn : n < W.A.length
    · rw [List.getElem?_append_left hn] at h1'
      rw [List.getElem?_append_left (by rw [← w.len]; exact hn)] at h2
      refine (w.ok n b u h1' h2).mono (Ext.push h w).kp fun v q => ?_
      rw [show upd1 H a o = upd H a o from rfl, upd_ne (ne_of_none q h)]; exact q
    · have e : n = W.A.length := by
        have := (List.getElem?_eq_some_iff.mp h1').1
        simp at this
        omega
      subst e
      rw [w.len] at h2
      simp at h1' h2
      subst h1' h2
      exact c
  · obtain ⟨q, xs, e, mt⟩ := w.pr p hp
    refine ⟨fun m => ?_, xs, by rw [show upd1 H a o = upd H a o from rfl, upd_ne (ne_of_none e h)]; exact e, mt⟩
    rcases List.mem_append.mp m with m | m
    · exact q m
    · rw [List.mem_singleton.mp m, h] at e; cases e
/-- a cell is changed -/
theorem kp_upd {o : HO} (m : a ∈ W.A) : Kp W.V H W.V (upd H a o) := fun b u h n => ⟨by rw [upd_ne (fun e => n (by rw [e]; exact Wd.mem.mpr (.inr m)))]; exact h, n⟩
theorem Wf.upd {n : Nat} {o : HO} {k : Cell} (w : Wf K W S H) (h : W.A[n]? = some a) (c : CellOk K W (upd H a o) a k) : Wf K W (S.set n k) (upd H a o) := by
  have m : a ∈ W.A := List.mem_of_getElem? h
  refine ⟨by rw [List.length_set]; exact w.len, w.nd, fun j b u h1 h2 => ?_, fun p hp => ?_⟩
  · by_cases e : j = n
    · subst e
      rw [h] at h1; cases h1
      rw [List.getElem?_set_self (by have := (List.getElem?_eq_some_iff.mp h).1; rw [← w.len]; exact this)] at h2
      cases h2; exact c
    · rw [List.getElem?_set_ne (Ne.symm e)] at h2
      refine (w.ok j b u h1 h2).mono (kp_upd m) fun v q => ?_
      have hb : b ≠ a := fun z => by
        subst z
        exact e ((List.getElem?_inj (List.getElem?_eq_some_iff.mp h1).1 w.nd).mp (h1.trans h.symm))
      rw [upd_ne hb]; exact q
  · obtain ⟨q, xs, e, mt⟩ := w.pr p hp
    exact ⟨q, xs, by rw [upd_ne (fun z => q (by rw [z]; exact m))]; exact e, mt⟩
theorem Ext.upd {o : HO} (m : a ∈ W.A) : Ext W H W (upd H a o) := ⟨rfl, ⟨[], by simp⟩, fun _ h => .inl h, fun b u h n => by rw [upd_ne (fun z => n (by rw [z]; exact m))]; exact h⟩
/-- at a def's end: its own cells go -/
theorem Ext.less {B : List Addr} (e : Ext W H W' H') : Ext W H W H' := ⟨rfl, ⟨[], by simp⟩, fun _ h => .inl h, e.keep⟩
theorem Wf.less (w : Wf K W' S H') (e : Ext W H W' H') : Wf K W (S.take W.A.length) H' := by
  obtain ⟨B, h1⟩ := e.pre
  have ka : Kp W'.V H' W.V H' := kp_less fun b m => by
    rw [Wd.mem] at m ⊢
    rw [e.pr, h1]
    exact m.imp id fun m => List.mem_append_left _ m
  have hl : W.A.length ≤ S.length := by rw [← w.len, h1]; simp
  have nd := w.nd
  rw [h1] at nd
  refine ⟨by rw [List.length_take]; omega, (List.nodup_append.mp nd).1, fun n b u h2 h3 => ?_, fun p hp => ?_⟩
  · have hn := (List.getElem?_eq_some_iff.mp h2).1
    refine (w.ok n b u ?_ ?_).mono ka fun _ h => h
    · rw [h1, List.getElem?_append_left hn]; exact h2
    · rw [List.getElem?_take_of_lt hn] at h3; exact h3
  · obtain ⟨q, r⟩ := w.pr p (by rw [e.pr]; exact hp)
    exact ⟨fun m => q (by rw [h1]; exact List.mem_append_left _ m), r⟩
/-- .. but one that is handed on -/
theorem Wf.pick {j : Nat} {k : Cell} (w : Wf K W' S H') (e : Ext W H W' H') (hj : W.A.length ≤ j) (h : W'.A[j]? = some a) (hk : S[j]? = some k) : Wf K (W.push a) (S.take W.A.length ++ [k]) H' ∧ H a = none := by
  obtain ⟨B, h1⟩ := e.pre
  have hw := w.less e
  have na : a ∉ W.A := fun m => by
    obtain ⟨n, hn, q⟩ := List.mem_iff_getElem.mp m
    have z : W'.A[n]? = some a := by rw [h1, List.getElem?_append_left hn, List.getElem?_eq_getElem hn, q]
    have := (List.getElem?_inj (by rw [h1, List.length_append]; omega) w.nd).mp (z.trans h.symm)
    omega
  have ma : a ∈ W'.A := List.mem_of_getElem? h
  refine ⟨⟨by simp [Wd.push, ← hw.len], ?_, fun n b u h2 h3 => ?_, fun p hp => ?_⟩, ?_⟩
  · show (W.A ++ [a]).Nodup
    rw [List.nodup_append]
    exact ⟨hw.nd, by simp, fun x hx y hy e => by rw [List.mem_singleton.mp hy] at e; exact na (e ▸ hx)⟩
  · have kp : Kp W'.V H' (W.push a).V H' := kp_less fun b m => by
      rw [push_V, Wd.mem] at m
      rw [Wd.mem, e.pr, h1]
      rcases m with (m | m) | m
      · exact .inl m
      · exact .inr (List.mem_append_left _ m)
      · rw [m, ← h1]; exact .inr ma
    have h2' : (W.A ++ [a])[n]? = some b := h2
    by_cases hn : n < W.A.length
    · rw [List.getElem?_append_left hn] at h2'
      rw [List.getElem?_append_left (by rw [← hw.len]; exact hn), List.getElem?_take_of_lt hn] at h3
      exact (w.ok n b u (by rw [h1, List.getElem?_append_left hn]; exact h2') h3).mono kp fun _ h => h
    · have e2 : n = W.A.length := by
        have := (List.getElem?_eq_some_iff.mp h2').1
        simp at this
        omega
      subst e2
      rw [List.getElem?_append_right (by rw [← hw.len]; exact Nat.le_refl _), ← hw.len] at h3
      simp at h2' h3
      subst h2' h3
      exact (w.ok j a k h hk).mono kp fun _ h => h
  · obtain ⟨q, r⟩ := w.pr p (by rw [e.pr]; exact hp)
    refine ⟨fun m => ?_, r⟩
    rcases List.mem_append.mp m with m | m
    · exact q (by rw [h1]; exact List.mem_append_left _ m)
    · rw [List.mem_singleton.mp m] at q; exact q ma
  · rcases e.new a ma with q | q
    · exact (na q).elim
    · exact q
end
end MV
set_option Elab.async false
set_option linter.all false
set_option maxRecDepth 100000
/-! Readings by mirrors: expressions, arguments, tests, statements. -/
namespace MV
open PySem PySem.Spec PyProof.Rows L2

/-! ### ends -/
def Post (K : Frg) (A : Wd) (H : Hp) (Q : VK) : Res Val → Prop
  | .ok (.d x) S => ∀ v H', Ext A H A H' → Wf K A S H' → Rp K A.V H' v x → Q v H'
  | .ok (.c n) S => ∀ a H', Ext A H A H' → Wf K A S H' → A.A[n]? = some a → Q (.ref a) H'
  | .ok (.f k) S => ∀ a H', Ext A H A H' → Wf K (A.push a) (S ++ [k]) H' → H a = none → Q (.ref a) H'
  | .ok (.z ds) S => ∀ v H', Ext A H A H' → Wf K A S H' → Rv K A H' v (.z ds) → Q v H'
  | .exc _ _ => False
  | .no => False
def RvL (K : Frg) (A : Wd) (H : Hp) : List V → List Val → Prop := Paired (Rv K A H)
def PostA (K : Frg) (A : Wd) (H : Hp) (Q : List V → Hp → Prop) : Res (List Val) → Prop
  | .ok vs S => ∀ xs H', Ext A H A H' → Wf K A S H' → RvL K A H' xs vs → Q xs H'
  | .exc _ _ => False
  | .no => False
def PostB (K : Frg) (A : Wd) (H : Hp) (Q : Bool → Hp → Prop) : Res Bool → Prop
  | .ok b S => ∀ H', Ext A H A H' → Wf K A S H' → Q b H'
  | .exc _ _ => False
  | .no => False
inductive Fw where
  | nx (ρ : Envi)
  | rt (v : Val)
  | bk (ρ : Envi)
  | ct (ρ : Envi)
def PostR (K : Frg) (A : Wd) (S : Sto) (H : Hp) (Q : VK) : Val → Prop
  | .d x => ∀ A' v H', Ext A H A' H' → Wf K A' S H' → Rp K A'.V H' v x → Q v H'
  | .c n => ∀ A' a H', Ext A H A' H' → Wf K A' S H' → A'.A[n]? = some a → Q (.ref a) H'
  | .f k => ∀ A' a H', Ext A H A' H' → Wf K (A'.push a) (S ++ [k]) H' → H a = none → Q (.ref a) H'
  | .z ds => ∀ A' v H', Ext A H A' H' → Wf K A' S H' → Rv K A' H' v (.z ds) → Q v H'
def PostS (K : Frg) (A : Wd) (H : Hp) (D : Ends) : Res Fw → Prop
  | .ok (.nx ρ) S => ∀ A' σ' H', Ext A H A' H' → Wf K A' S H' → REnv K A' H' ρ σ' → D.nx σ' H'
  | .ok (.bk ρ) S => ∀ A' σ' H', Ext A H A' H' → Wf K A' S H' → REnv K A' H' ρ σ' → D.bk σ' H'
  | .ok (.ct ρ) S => ∀ A' σ' H', Ext A H A' H' → Wf K A' S H' → REnv K A' H' ρ σ' → D.ct σ' H'
  | .ok (.rt v) S => PostR K A S H D.rt v
  | .exc _ _ => False
  | .no => False
section
variable {K : Frg} {A A' A2 : Wd} {H H' H2 : Hp} {S S' : Sto} {Q Q' : VK} {ρ : Envi} {σ : L2.St} {D : Ends}
theorem RvL.mono {xs : List V} {vs : List Val} (e : Ext A H A' H') (r : RvL K A H xs vs) : RvL K A' H' xs vs := Paired.mapP r fun _ _ h => h.mono e
/-- an end, whatever the value: its thing -/
theorem Post.th {v : Val} (h : ∀ x H', Ext A H A H' → Wf K A S H' → Rv K A H' x v.th → Q x H') : Post K A H Q (.ok v S) := by
  cases v with
  | d x => exact fun v H' e w r => h v H' e w r
  | c n => exact fun a H' e w r => h _ H' e w ⟨a, r, rfl⟩
  | f k => exact fun a H' e w r => h _ H' e w.drop1.1 (Cell.th w.drop1.2.1 w.drop1.2.2)
  | z ds => exact fun v H' e w r => h v H' e w r
theorem Post.seq {β : Type} {P : Res β → Prop} {r : Res Val} {g : Val → Sto → Res β} (h : P (r.bind g)) (h0 : P .no → False) (h1 : ∀ e S, P (.exc e S) → False)
    (k : ∀ v S1 x H1, Ext A H A H1 → Wf K A S1 H1 → Rv K A H1 x v.th → P (g v S1) → Q x H1) : Post K A H Q r := by
  cases r with
  | ok v S1 => exact Post.th fun x H1 e w r => k v S1 x H1 e w r h
  | exc e S => exact (h1 _ _ h).elim
  | no => exact (h0 h).elim
theorem PostA.seq {β : Type} {P : Res β → Prop} {Q : List V → Hp → Prop} {r : Res (List Val)} {g : List Val → Sto → Res β} (h : P (r.bind g)) (h0 : P .no → False) (h1 : ∀ e S, P (.exc e S) → False)
    (k : ∀ v S1 x H1, Ext A H A H1 → Wf K A S1 H1 → RvL K A H1 x v → P (g v S1) → Q x H1) : PostA K A H Q r := by
  cases r with
  | ok v S1 => exact fun x H1 e w r => k v S1 x H1 e w r h
  | exc e S => exact (h1 _ _ h).elim
  | no => exact (h0 h).elim
theorem PostB.seq {β : Type} {P : Res β → Prop} {Q : Bool → Hp → Prop} {r : Res Bool} {g : Bool → Sto → Res β} (h : P (r.bind g)) (h0 : P .no → False) (h1 : ∀ e S, P (.exc e S) → False)
    (k : ∀ v S1 H1, Ext A H A H1 → Wf K A S1 H1 → P (g v S1) → Q v H1) : PostB K A H Q r := by
  cases r with
  | ok v S1 => exact fun H1 e w => k v S1 H1 e w h
  | exc e S => exact (h1 _ _ h).elim
  | no => exact (h0 h).elim
theorem Post.shift {r : Res Val} (h : Post K A H Q r) (e : Ext A H A H2) (w : Wf K A S H2) : Post K A H2 Q r := by
  cases r with
  | ok v S1 =>
    cases v with
    | d x => exact fun v H' e' w' r => h v H' (e.trans e') w' r
    | c n => exact fun a H' e' w' r => h a H' (e.trans e') w' r
    | f k => exact fun a H' e' w' r => h a H' (e.trans e') w' (e.free w r)
    | z ds => exact fun v H' e' w' r => h v H' (e.trans e') w' r
  | exc _ _ => exact h
  | no => exact h
theorem PostA.shift {Q : List V → Hp → Prop} {r : Res (List Val)} (h : PostA K A H Q r) (e : Ext A H A H2) : PostA K A H2 Q r := by
  cases r with
  | ok v S1 => exact fun v H' e' w' r => h v H' (e.trans e') w' r
  | exc _ _ => exact h
  | no => exact h
theorem PostB.shift {Q : Bool → Hp → Prop} {r : Res Bool} (h : PostB K A H Q r) (e : Ext A H A H2) : PostB K A H2 Q r := by
  cases r with
  | ok v S1 => exact fun H' e' w' => h H' (e.trans e') w'
  | exc _ _ => exact h
  | no => exact h
theorem PostR.shift {v : Val} {Q : VK} (h : PostR K A S H Q v) (e : Ext A H A2 H2) (w : Wf K A2 S' H2) : PostR K A2 S H2 Q v := by
  cases v with
  | d x => exact fun A' v H' e' w' r => h A' v H' (e.trans e') w' r
  | c n => exact fun A' a H' e' w' r => h A' a H' (e.trans e') w' r
  | f k => exact fun A' a H' e' w' r => h A' a H' (e.trans e') w' (e.free w r)
  | z ds => exact fun A' v H' e' w' r => h A' v H' (e.trans e') w' r
theorem PostS.shift {r : Res Fw} (h : PostS K A H D r) (e : Ext A H A2 H2) (w : Wf K A2 S H2) : PostS K A2 H2 D r := by
  cases r with
  | ok f S1 =>
    cases f with
    | nx ρ => exact fun A' v H' e' w' r => h A' v H' (e.trans e') w' r
    | bk ρ => exact fun A' v H' e' w' r => h A' v H' (e.trans e') w' r
    | ct ρ => exact fun A' v H' e' w' r => h A' v H' (e.trans e') w' r
    | rt v => exact PostR.shift (v := v) h e w
  | exc _ _ => exact h
  | no => exact h
end

/-! ### readings -/
abbrev Sx := Envi → Sto → Res Val
abbrev SA := Envi → Sto → Res (List Val)
abbrev SB := Envi → Sto → Res Bool
abbrev Ss := Envi → Sto → Res Fw
def At (K : Frg) (σ : L2.St) (H : Hp) (P : Wd → Envi → Sto → Prop) : Prop := ∃ A S ρ, Wf K A S H ∧ REnv K A H ρ σ ∧ P A ρ S
def tE (K : Frg) (f : Sx) : TE := fun σ H Q => At K σ H fun A ρ S => Post K A H Q (f ρ S)
def tAr (K : Frg) (f : SA) : TA := fun σ H Q => At K σ H fun A ρ S => PostA K A H Q (f ρ S)
def tB (K : Frg) (f : SB) : TT := fun σ H Q => At K σ H fun A ρ S => PostB K A H Q (f ρ S)
def tS (K : Frg) (f : Ss) : TS := fun D σ H => At K σ H fun A ρ S => PostS K A H D (f ρ S)
section
variable {X : Cx}
theorem PEi {e : Expr} {t t' : TE} (h : PE X e t) (i : ∀ σ H Q, t' σ H Q → t σ H Q) : PE X e t' := ⟨fun pins s σ H Q I q => h.run pins s σ H Q I (i σ H Q q)⟩
theorem PTi {e : Expr} {t t' : TT} (h : PT X e t) (i : ∀ σ H Q, t' σ H Q → t σ H Q) : PT X e t' := ⟨fun pins s σ H Q I q => h.run pins s σ H Q I (i σ H Q q)⟩
theorem PWi {e : Expr} {t t' : TT} (h : PW X e t) (i : ∀ σ H Q, t' σ H Q → t σ H Q) : PW X e t' := ⟨fun wh pins s σ H Q I q => h.run wh pins s σ H Q I (i σ H Q q)⟩
theorem PAi {e : List Expr} {t t' : TA} (h : PA X e t) (i : ∀ σ H Q, t' σ H Q → t σ H Q) : PA X e t' := ⟨fun pos pins s σ H Q I q => h.run pos pins s σ H Q I (i σ H Q q)⟩
theorem PSi {e : Stmt} {t t' : TS} (h : PS X e t) (i : ∀ D σ H, t' D σ H → t D σ H) : PS X e t' := ⟨fun pins s σ H D I q => h.run pins s σ H D I (i D σ H q)⟩
theorem PSsi {e : List Stmt} {t t' : TS} (h : PSs X e t) (i : ∀ D σ H, t' D σ H → t D σ H) : PSs X e t' := ⟨fun pins s σ H D I q => h.run pins s σ H D I (i D σ H q)⟩

/-! ### names, constants -/
def evV (i : Nat) : Sx := fun ρ S => match ρ[i]? with
  | some (some v) => .ok v S
  | _ => .no
def evK (x : PyData) : Sx := fun _ S => .ok (.d x) S
theorem Post.val {K : Frg} {A : Wd} {H : Hp} {S : Sto} {Q : VK} {v : Val} {x : V} (w : Wf K A S H) (r : Rv K A H x v) (h : Post K A H Q (.ok v S)) : Q x H := by
  cases v with
  | d y => exact h x H .refl w r
  | c n => obtain ⟨a, e, rfl⟩ := r; exact h a H .refl w e
  | f k => exact r.elim
  | z ds => exact h x H .refl w r
theorem eV (i : Nat) {x : Str} {pos : Pos} (hN : X.N[i]? = some x := by rfl) (hv : Vis X.env.scope x := by first | exact Or.inl rfl | exact Or.inr (Or.inl rfl) | exact Or.inr (Or.inr rfl)) (hd : (x == ("__debug__" : Str)) = false := by decide)
    (hcd : (x == ("__classdict__" : Str)) = false := by decide) : PE X (.Name x pos) (tE X.K (evV i)) := PEi (pe_var hN hv hd hcd) fun σ H Q ⟨A, S, ρ, w, env, p⟩ => by
  dsimp only [evV] at p
  split at p
  · rename_i v h
    obtain ⟨y, h1, h2⟩ := env.get i v h
    exact ⟨y, h1, Post.val w h2 p⟩
  · exact p.elim
theorem eC {e : Expr} {v : V} {x : PyData} (h : PE X e (tC v)) (r : ∀ A H, Rp X.K A H v x) : PE X e (tE X.K (evK x)) := PEi h fun σ H Q ⟨A, S, ρ, w, env, p⟩ => p v H .refl w (r A.V H)
theorem eInt {i : Int} {j pos} : PE X (.Constant (.int i) j pos) (tE X.K (evK (.int i))) := eC pe_int fun _ _ => .int i
theorem eBl {i : Bool} {j pos} : PE X (.Constant (.bool i) j pos) (tE X.K (evK (.bool i))) := eC pe_bl fun _ _ => .bl i
theorem eStr {i : Str} {j pos} : PE X (.Constant (.str i) j pos) (tE X.K (evK (.str i))) := eC pe_str fun _ _ => .str i
theorem eNon {j pos} : PE X (.Constant .none j pos) (tE X.K (evK .none)) := eC pe_non fun _ _ => .non

/-! ### operators by values -/
def ORul (X : Cx) (f : Value → Value → Sem Value) (g : Val → Val → Sto → Res Val) : Prop :=
  ∀ (pins : List (Addr × Obj)) (s : Shared) (σ : L2.St) (A : Wd) (S : Sto) (H : Hp) (x y : V) (a b : Value) (v w : Val) (Q : VK), Inv X pins σ H s → Wf X.K A S H → Rv X.K A H x v → Rv X.K A H y w → RelV x a → RelV y b →
    Post X.K A H Q (g v w S) → wpAny (model X.prog X.w) X.A (f a b) (EP X pins σ Q) X.xe s
def rO (K : Frg) (g : Val → Val → Sto → Res Val) : R2 := fun x y H Q => ∃ A S v w, Wf K A S H ∧ Rv K A H x v ∧ Rv K A H y w ∧ Post K A H Q (g v w S)
theorem ORul.op {f : Value → Value → Sem Value} {g : Val → Val → Sto → Res Val} (h : ORul X f g) : OpR X f (rO X.K g) := fun pins s σ H x y a b Q I ra rb ⟨A, S, v, w, wf, r1, r2, p⟩ => h pins s σ A S H x y a b v w Q I wf r1 r2 ra rb p
def ev2 (g : Val → Val → Sto → Res Val) (fa fb : Sx) : Sx := fun ρ S => (fa ρ S).bind fun v S1 => (fb ρ S1).bind fun w S2 => g v.th w.th S2
theorem ev2_ok {K : Frg} {g : Val → Val → Sto → Res Val} {fa fb : Sx} {σ : L2.St} {H : Hp} {Q : VK} (h : tE K (ev2 g fa fb) σ H Q) : tOp (rO K g) (tE K fa) (tE K fb) σ H Q := by
  obtain ⟨A, S, ρ, w, env, p⟩ := h
  refine ⟨A, S, ρ, w, env, Post.seq (P := Post K A H Q) p (fun h => h) (fun _ _ h => h) fun v S1 x H1 e1 w1 r1 p1 => ?_⟩
  refine ⟨A, S1, ρ, w1, env.mono e1, Post.seq (P := Post K A H Q) p1 (fun h => h) (fun _ _ h => h) fun u S2 y H2 e2 w2 r2 p2 => ?_⟩
  exact ⟨A, S2, v.th, u.th, w2, r1.mono e2, r2, p2.shift (e1.trans e2) w2⟩
variable {a b : Expr} {fa fb : Sx} {pos : Pos}
theorem eOp {op : Operator} {g : Val → Val → Sto → Res Val} (h : ORul X (binaryOp op) g) (ha : PE X a (tE X.K fa)) (hb : PE X b (tE X.K fb)) : PE X (.BinOp a op b pos) (tE X.K (ev2 g fa fb)) := PEi (pe_op h.op ha hb) fun _ _ _ => ev2_ok
theorem eCmp {op : CmpOp} {g : Val → Val → Sto → Res Val} (h : ORul X (compareOp op) g) (ha : PE X a (tE X.K fa)) (hb : PE X b (tE X.K fb)) (hm : behindInMarks op b = false := by first | exact nomark _ | rfl) : PE X (.Compare a [op] [b] pos) (tE X.K (ev2 g fa fb)) :=
  PEi (pe_cmpR h.op ha hb hm) fun _ _ _ => ev2_ok
/-! ### tests -/
def tst (f : Sx) : SB := fun ρ S => (f ρ S).bind fun v S1 => match v with
  | .d (.bool b) => .ok b S1
  | _ => .no
theorem tst_ok {K : Frg} {f : Sx} {σ : L2.St} {H : Hp} {Q : Bool → Hp → Prop} (h : tB K (tst f) σ H Q) : tTest (tE K f) σ H Q := by
  obtain ⟨A, S, ρ, w, env, p⟩ := h
  refine ⟨A, S, ρ, w, env, Post.seq (P := PostB K A H Q) p (fun h => h) (fun _ _ h => h) fun v S1 x H1 e1 w1 r1 p1 => ?_⟩
  split at p1
  · cases r1
    exact ⟨_, rfl, p1 H1 e1 w1⟩
  · exact p1.elim
theorem bCmp {op : CmpOp} {g : Val → Val → Sto → Res Val} (h : ORul X (compareOp op) g) (ha : PE X a (tE X.K fa)) (hb : PE X b (tE X.K fb)) (hm : behindInMarks op b = false := by first | exact nomark _ | rfl) : PT X (.Compare a [op] [b] pos) (tB X.K (tst (ev2 g fa fb))) :=
  PTi (pt_cmpR h.op ha hb hm) fun σ H Q q => by
    have z := tst_ok q
    exact ev2_ok z
theorem bVal (ha : PE X a (tE X.K fa)) (he : ∀ whole, isTrue a X.env whole = (do let v ← whole; standAt a.pos; holding [v] (truthy v)) := by intro _; rfl) : PT X a (tB X.K (tst fa)) := PTi (pt_val ha he) fun σ H Q q => tst_ok q
def bAnd (f g : SB) : SB := fun ρ S => (f ρ S).bind fun c S1 => if c = true then g ρ S1 else .ok false S1
def bOr (f g : SB) : SB := fun ρ S => (f ρ S).bind fun c S1 => if c = true then .ok true S1 else g ρ S1
def bNot (f : SB) : SB := fun ρ S => (f ρ S).bind fun c S1 => .ok (!c) S1
variable {ga gb : SB} {rest : List Expr}
theorem wAnd1 (ha : PT X a (tB X.K ga)) : PW X (.BoolOp .And [a] pos) (tB X.K ga) := pw_and1 ha
theorem wOr1 (ha : PT X a (tB X.K ga)) : PW X (.BoolOp .Or [a] pos) (tB X.K ga) := pw_or1 ha
theorem wAnd (ha : PT X a (tB X.K ga)) (hb : PW X (.BoolOp .And (b :: rest) pos) (tB X.K gb)) : PW X (.BoolOp .And (a :: b :: rest) pos) (tB X.K (bAnd ga gb)) := PWi (pw_and ha hb) fun σ H Q ⟨A, S, ρ, w, env, p⟩ =>
  ⟨A, S, ρ, w, env, PostB.seq (P := PostB X.K A H Q) p (fun h => h) (fun _ _ h => h) fun c S1 H1 e1 w1 p1 => by
    cases c with
    | true => rw [if_pos rfl] at p1 ⊢; exact ⟨A, S1, ρ, w1, env.mono e1, p1.shift e1⟩
    | false => rw [if_neg Bool.false_ne_true] at p1 ⊢; exact p1 H1 e1 w1⟩
theorem wOr (ha : PT X a (tB X.K ga)) (hb : PW X (.BoolOp .Or (b :: rest) pos) (tB X.K gb)) : PW X (.BoolOp .Or (a :: b :: rest) pos) (tB X.K (bOr ga gb)) := PWi (pw_or ha hb) fun σ H Q ⟨A, S, ρ, w, env, p⟩ =>
  ⟨A, S, ρ, w, env, PostB.seq (P := PostB X.K A H Q) p (fun h => h) (fun _ _ h => h) fun c S1 H1 e1 w1 p1 => by
    cases c with
    | true => rw [if_pos rfl] at p1 ⊢; exact p1 H1 e1 w1
    | false => rw [if_neg Bool.false_ne_true] at p1 ⊢; exact ⟨A, S1, ρ, w1, env.mono e1, p1.shift e1⟩⟩
theorem bPw (h : PW X a (tB X.K ga)) : PT X a (tB X.K ga) := h.pt
theorem bNo (ha : PT X a (tB X.K ga)) : PT X (.UnaryOp .Not a pos) (tB X.K (bNot ga)) := PTi (pt_not ha) fun σ H Q ⟨A, S, ρ, w, env, p⟩ =>
  ⟨A, S, ρ, w, env, PostB.seq (P := PostB X.K A H Q) p (fun h => h) (fun _ _ h => h) fun c S1 H1 e1 w1 p1 => p1 H1 e1 w1⟩
/-! .. as values -/
def evAnd (f g : Sx) : Sx := fun ρ S => (tst f ρ S).bind fun c S1 => if c = true then g ρ S1 else .ok (.d (.bool false)) S1
def evOr (f g : Sx) : Sx := fun ρ S => (tst f ρ S).bind fun c S1 => if c = true then .ok (.d (.bool true)) S1 else g ρ S1
def evNot (f : Sx) : Sx := fun ρ S => (tst f ρ S).bind fun c S1 => .ok (.d (.bool (!c))) S1
theorem tst_seq {K : Frg} {f : Sx} {σ : L2.St} {H : Hp} {Q : VK} {A : Wd} {S : Sto} {ρ : Envi} {g : Bool → Sto → Res Val} {R : V → Hp → Prop} (w : Wf K A S H) (env : REnv K A H ρ σ) (p : Post K A H Q ((tst f ρ S).bind g))
    (k : ∀ c S1 H1, Ext A H A H1 → Wf K A S1 H1 → REnv K A H1 ρ σ → Post K A H1 Q (g c S1) → R (.bl c) H1) : tE K f σ H R := by
  refine ⟨A, S, ρ, w, env, ?_⟩
  unfold tst at p
  cases hf : f ρ S with
  | ok v S1 =>
    rw [hf] at p
    show Post K A H R (f ρ S)
    rw [hf]
    refine Post.th fun x H1 e1 w1 r1 => ?_
    dsimp only [Res.bind] at p
    split at p
    · rename_i q
      split at q
      · injection q with q1 q2
        subst q1 q2
        cases r1
        exact k _ _ H1 e1 w1 (env.mono e1) (p.shift e1 w1)
      · cases q
    · exact p.elim
    · exact p.elim
  | exc e S => rw [hf] at p; exact p.elim
  | no => rw [hf] at p; exact p.elim
theorem eAnd (ha : PE X a (tE X.K fa)) (hb : PE X (.BoolOp .And (b :: rest) pos) (tE X.K fb)) : PE X (.BoolOp .And (a :: b :: rest) pos) (tE X.K (evAnd fa fb)) := PEi (pe_and ha hb) fun σ H Q ⟨A, S, ρ, w, env, p⟩ =>
  tst_seq w env p fun c S1 H1 e1 w1 env1 p1 => ⟨c, rfl, by
    cases c with
    | true => rw [if_pos rfl] at p1 ⊢; exact ⟨A, S1, ρ, w1, env1, p1⟩
    | false => rw [if_neg Bool.false_ne_true] at p1 ⊢; exact p1 _ H1 .refl w1 (.bl _)⟩
theorem eOr (ha : PE X a (tE X.K fa)) (hb : PE X (.BoolOp .Or (b :: rest) pos) (tE X.K fb)) : PE X (.BoolOp .Or (a :: b :: rest) pos) (tE X.K (evOr fa fb)) := PEi (pe_or ha hb) fun σ H Q ⟨A, S, ρ, w, env, p⟩ =>
  tst_seq w env p fun c S1 H1 e1 w1 env1 p1 => ⟨c, rfl, by
    cases c with
    | true => rw [if_pos rfl] at p1 ⊢; exact p1 _ H1 .refl w1 (.bl _)
    | false => rw [if_neg Bool.false_ne_true] at p1 ⊢; exact ⟨A, S1, ρ, w1, env1, p1⟩⟩
theorem eOne {op} (h : PE X a (tE X.K fa)) : PE X (.BoolOp op [a] pos) (tE X.K fa) := pe_one h
theorem eNot (ha : PE X a (tE X.K fa)) : PE X (.UnaryOp .Not a pos) (tE X.K (evNot fa)) := PEi (pe_not ha) fun σ H Q ⟨A, S, ρ, w, env, p⟩ =>
  tst_seq w env p fun c S1 H1 e1 w1 env1 p1 => ⟨c, rfl, p1 _ H1 .refl w1 (.bl _)⟩
def evIf (c : SB) (f g : Sx) : Sx := fun ρ S => (c ρ S).bind fun k S1 => if k = true then f ρ S1 else g ρ S1
theorem eIf {c : Expr} {gc : SB} (hc : PT X c (tB X.K gc)) (ha : PE X a (tE X.K fa)) (hb : PE X b (tE X.K fb)) : PE X (.IfExp c a b pos) (tE X.K (evIf gc fa fb)) := PEi (pe_ifExp hc ha hb) fun σ H Q ⟨A, S, ρ, w, env, p⟩ =>
  ⟨A, S, ρ, w, env, PostB.seq (P := Post X.K A H Q) p (fun h => h) (fun _ _ h => h) fun c S1 H1 e1 w1 p1 => by
    cases c with
    | true => rw [if_pos rfl] at p1 ⊢; exact ⟨A, S1, ρ, w1, env.mono e1, p1.shift e1 w1⟩
    | false => rw [if_neg Bool.false_ne_true] at p1 ⊢; exact ⟨A, S1, ρ, w1, env.mono e1, p1.shift e1 w1⟩⟩
def evChain (g g' : Val → Val → Sto → Res Val) (fa fb fc : Sx) : Sx := fun ρ S => (fa ρ S).bind fun v S1 => (fb ρ S1).bind fun w S2 => (g v.th w.th S2).bind fun z S3 => match z with
  | .d (.bool true) => (fc ρ S3).bind fun u S4 => g' w.th u.th S4
  | .d (.bool false) => .ok z S3
  | _ => .no
theorem eChain {op op' : CmpOp} {g g' : Val → Val → Sto → Res Val} {c : Expr} {fc : Sx} (h : ORul X (compareOp op) g) (h' : ORul X (compareOp op') g') (ha : PE X a (tE X.K fa)) (hb : PE X b (tE X.K fb)) (hc : PE X c (tE X.K fc))
    (hm : lastMarks [op, op'] [b, c] = false := by rfl) : PE X (.Compare a [op, op'] [b, c] pos) (tE X.K (evChain g g' fa fb fc)) :=
  PEi (pe_chain h.op h'.op ha hb hc hm) fun σ H Q ⟨A, S, ρ, w, env, p⟩ =>
  ⟨A, S, ρ, w, env, Post.seq (P := Post X.K A H Q) p (fun h => h) (fun _ _ h => h) fun v S1 x H1 e1 w1 r1 p1 =>
    ⟨A, S1, ρ, w1, env.mono e1, Post.seq (P := Post X.K A H Q) p1 (fun h => h) (fun _ _ h => h) fun u S2 y H2 e2 w2 r2 p2 =>
      ⟨A, S2, v.th, u.th, w2, r1.mono e2, r2, Post.seq (P := Post X.K A H Q) p2 (fun h => h) (fun _ _ h => h) fun z S3 t H3 e3 w3 r3 p3 => by
        split at p3
        · cases r3
          refine ⟨true, rfl, ?_⟩
          rw [if_pos rfl]
          have e4 := (e1.trans e2).trans e3
          exact ⟨A, S3, ρ, w3, env.mono e4, Post.seq (P := Post X.K A H Q) p3 (fun h => h) (fun _ _ h => h) fun u' S4 y' H4 e5 w4 r4 p4 => ⟨A, S4, u.th, u'.th, w4, (r2.mono e3).mono e5, r4, p4.shift (e4.trans e5) w4⟩⟩
        · cases r3
          refine ⟨false, rfl, ?_⟩
          rw [if_neg Bool.false_ne_true]
          exact p3 _ H3 ((e1.trans e2).trans e3) w3 (.bl _)
        · exact p3.elim⟩⟩⟩
end
end MV
set_option Elab.async false
set_option linter.all false
set_option maxRecDepth 100000
/-! Readings by mirrors: arguments, displays, calls, targets, statements, loops, comprehensions. -/
namespace MV
open PySem PySem.Spec PyProof.Rows L2
/-! ### what stays when a list that is being made grows -/
def Kx (W : Wd) (H : Hp) (W' : Wd) (H' : Hp) : Prop := (∃ B, W'.A = W.A ++ B) ∧ Kp W.V H W'.V H'
theorem Ext.kx {A A' : Wd} {H H' : Hp} (e : Ext A H A' H') : Kx A H A' H' := ⟨e.pre, e.kp⟩
section
variable {X : Cx} {K : Frg} {a b : Expr} {fa fb : Sx} {pos : Pos} {A A' A2 : Wd} {H H' H2 : Hp} {S S' : Sto} {Q : VK} {ρ : Envi} {σ : L2.St} {D : Ends}
/-- chain an expression's end -/
theorem at_seq {β : Type} {P : Res β → Prop} {f : Sx} {g : Val → Sto → Res β} {Q : VK} (w : Wf K A S H) (env : REnv K A H ρ σ) (p : P ((f ρ S).bind g)) (h0 : P .no → False) (h1 : ∀ e S, P (.exc e S) → False)
    (k : ∀ v S1 x H1, Ext A H A H1 → Wf K A S1 H1 → Rv K A H1 x v.th → P (g v S1) → Q x H1) : tE K f σ H Q := ⟨A, S, ρ, w, env, Post.seq (P := P) p h0 h1 k⟩

/-! ### arguments, displays -/
def aNil : SA := fun _ S => .ok [] S
def aCons (f : Sx) (g : SA) : SA := fun ρ S => (f ρ S).bind fun v S1 => (g ρ S1).bind fun vs S2 => .ok (v.th :: vs) S2
theorem aN : PA X [] (tAr X.K aNil) := PAi pa_nil fun σ H Q ⟨A, S, ρ, w, env, p⟩ => p [] H .refl w .nil
theorem aC {e : Expr} {es : List Expr} {f : Sx} {g : SA} (he : PE X e (tE X.K f)) (hr : PA X es (tAr X.K g)) (hs : starEach (e :: es) X.env = (false, eval e X.env) :: starEach es X.env := by rfl) : PA X (e :: es) (tAr X.K (aCons f g)) :=
  PAi (pa_cons he hr hs) fun σ H Q ⟨A, S, ρ, w, env, p⟩ => at_seq (P := PostA X.K A H Q) w env p (fun h => h) (fun _ _ h => h) fun v S1 x H1 e1 w1 r1 p1 =>
    ⟨A, S1, ρ, w1, env.mono e1, PostA.seq (P := PostA X.K A H Q) p1 (fun h => h) (fun _ _ h => h) fun vs S2 xs H2 e2 w2 r2 p2 => p2 _ H2 (e1.trans e2) w2 (.cons (r1.mono e2) r2)⟩
def datas : List Val → Option (List PyData)
  | [] => some []
  | .d x :: r => (datas r).map (x :: ·)
  | _ :: _ => none
theorem datas_ok : ∀ {vs : List Val} {xs : List V} {ds : List PyData}, datas vs = some ds → RvL K A H xs vs → RpL K A.V H xs ds
  | [], _, _, h, .nil => by cases h; exact .nil
  | .d x :: r, _, ds, h, .cons r1 r2 => by
    unfold datas at h
    cases q : datas r with
    | none => rw [q] at h; cases h
    | some es => rw [q] at h; cases h; exact .cons r1 (datas_ok q r2)
def evTup (f : SA) : Sx := fun ρ S => (f ρ S).bind fun vs S1 => match datas vs with
  | some ds => if ds.length ≤ 1000 then .ok (.d (.tuple ds)) S1 else .no
  | none => .no
def evLst (f : SA) : Sx := fun ρ S => (f ρ S).bind fun vs S1 => match datas vs with
  | some ds => if ds.length ≤ 1000 then .ok (.f (.lst ds)) S1 else .no
  | none => .no
theorem line1000 {n : Nat} (h : n ≤ 1000) : n ≤ sizeLine := Nat.le_of_lt (small1000 h)
/-- a new tuple, a new list at hand -/
theorem Post.tup {ds : List PyData} {xs : List V} {p : Addr} (h : Post K A H Q (.ok (.d (.tuple ds)) S)) (e : Ext A H A H2) (w : Wf K A S H2) (hp : H2 p = none) (r : RpL K A.V H2 xs ds) : Q (.ref p) (upd H2 p (.tup xs)) :=
  h _ _ (e.trans (.laid hp)) (w.laid hp) (.tup (.inl ⟨.inl upd_same, w.off hp⟩) (r.mono (Ext.laid hp).kp))
theorem push_cell {ds : List PyData} {xs : List V} {p : Addr} (w : Wf K A S H2) (hp : H2 p = none) (r : RpL K A.V H2 xs ds) : Wf K (A.push p) (S ++ [.lst ds]) (upd H2 p (.lst xs)) :=
  w.new hp ⟨xs, upd_same, r.mono (Ext.push hp w).kp⟩
theorem Post.lst {ds : List PyData} {xs : List V} {p : Addr} (h : Post K A H Q (.ok (.f (.lst ds)) S)) (e : Ext A H A H2) (w : Wf K A S H2) (hp : H2 p = none) (r : RpL K A.V H2 xs ds) : Q (.ref p) (upd H2 p (.lst xs)) :=
  h _ _ (e.trans (.laid hp)) (push_cell w hp r) (e.free w hp)
theorem eTup {es : List Expr} {f : SA} {k} (h : PA X es (tAr X.K f)) : PE X (.Tuple es k pos) (tE X.K (evTup f)) := PEi (pe_tup h) fun σ H Q ⟨A, S, ρ, w, env, p⟩ =>
  ⟨A, S, ρ, w, env, PostA.seq (P := Post X.K A H Q) p (fun h => h) (fun _ _ h => h) fun vs S1 xs H1 e1 w1 r1 p1 => by
    split at p1
    · rename_i ds hd
      split at p1
      · rename_i hl
        have r := datas_ok hd r1
        exact ⟨by rw [r.length]; exact line1000 hl, fun q hq => p1.tup e1 w1 hq r⟩
      · exact p1.elim
    · exact p1.elim⟩
theorem eLst {es : List Expr} {f : SA} (h : PA X es (tAr X.K f)) : PE X (.List es pos) (tE X.K (evLst f)) := PEi (pe_lst h) fun σ H Q ⟨A, S, ρ, w, env, p⟩ =>
  ⟨A, S, ρ, w, env, PostA.seq (P := Post X.K A H Q) p (fun h => h) (fun _ _ h => h) fun vs S1 xs H1 e1 w1 r1 p1 => by
    split at p1
    · rename_i ds hd
      split at p1
      · rename_i hl
        have r := datas_ok hd r1
        exact ⟨by rw [r.length]; exact line1000 hl, fun q hq => p1.lst e1 w1 hq r⟩
      · exact p1.elim
    · exact p1.elim⟩

/-! ### calls -/
def BRul (X : Cx) (f : Value) (g : List Val → Sto → Res Val) : Prop :=
  ∀ (pins : List (Addr × Obj)) (s : Shared) (σ : L2.St) (A : Wd) (S : Sto) (H : Hp) (xs : List V) (us : List Value) (vs : List Val) (Q : VK), Inv X pins σ H s → Wf X.K A S H → RvL X.K A H xs vs → Vals xs us →
    Post X.K A H Q (g vs S) → wpAny (model X.prog X.w) X.A (call f us) (EP X pins σ Q) X.xe s
def rB (K : Frg) (g : List Val → Sto → Res Val) : List V → Hp → VK → Prop := fun xs H Q => ∃ A S vs, Wf K A S H ∧ RvL K A H xs vs ∧ Post K A H Q (g vs S)
theorem BRul.call {f : Value} {g : List Val → Sto → Res Val} (h : BRul X f g) : CallR X f (rB X.K g) := fun pins s σ H xs us Q I r ⟨A, S, vs, w, r2, p⟩ => h pins s σ A S H xs us vs Q I w r2 r p
def evCall (g : List Val → Sto → Res Val) (f : SA) : Sx := fun ρ S => (f ρ S).bind g
theorem call_ok {g : List Val → Sto → Res Val} {f : SA} (h : tE K (evCall g f) σ H Q) : tCB (rB K g) (tAr K f) σ H Q := by
  obtain ⟨A, S, ρ, w, env, p⟩ := h
  exact ⟨A, S, ρ, w, env, PostA.seq (P := Post K A H Q) p (fun h => h) (fun _ _ h => h) fun vs S1 xs H1 e1 w1 r1 p1 => ⟨A, S1, vs, w1, r1, p1.shift e1 w1⟩⟩
section
variable {x : Str} {p : Pos} {e : Expr} {es : List Expr} {f : SA} {id T : String} {g : List Val → Sto → Res Val}
theorem eB (hc : BRul X (.builtin id) g) (hg : Gl X x) (hm : X.mg x = none) (hv : bootBuiltins x = some (.builtin id)) (ha : PA X (e :: es) (tAr X.K f)) (hn : x ≠ "__name__" := by decide) (hdb : (x == ("__debug__" : Str)) = false := by decide)
    (he : starEach (e :: es) X.env = (false, eval e X.env) :: starEach es X.env := by rfl) (hpl : (backTo pos (starEach es X.env)).any (·.1) = false := by rfl) : PE X (.Call (.Name x p) (e :: es) [] pos) (tE X.K (evCall g f)) :=
  PEi (pe_callB hc.call hg hm hv ha hn hdb he hpl) fun _ _ _ => call_ok
theorem eT (hc : BRul X (.type T) g) (hg : Gl X x) (hm : X.mg x = none) (hv : bootBuiltins x = some (.type T)) (ha : PA X (e :: es) (tAr X.K f)) (hn : x ≠ "__name__" := by decide) (hdb : (x == ("__debug__" : Str)) = false := by decide)
    (he : starEach (e :: es) X.env = (false, eval e X.env) :: starEach es X.env := by rfl) (hpl : (backTo pos (starEach es X.env)).any (·.1) = false := by rfl) : PE X (.Call (.Name x p) (e :: es) [] pos) (tE X.K (evCall g f)) :=
  PEi (pe_callTy hc.call hg hm hv ha hn hdb he hpl) fun _ _ _ => call_ok
end
/-! ### defs, called where no container's text is being made -/
structure FnG (P : Program) (w : World) (K : Frg) (mg : Str → Option Value) (base : Heap) (k : Nat) (f : Addr) (fd : FuncData) (ps : List Str) (sp : Sp) : Prop where
  arity : ∀ xs H Q E, sp xs H Q E → xs.length = ps.length
  runs : ∀ (A : Around) (out : List PySem.Env) (s : Shared) (H : Hp) (ar : Args) (us : List Value) (xs : List V) (Q : VK) (E : XK),
    Room k A → A.guards = some [] → Env0 P w K mg base A out s H → BindsTo s fd ar (ps.zip us) → Vals xs us → sp xs H Q E → codeAny (model P w) A (.call (.ref f) ar) (CR CX0 out P w H s Q E) s
theorem FnG.up {P : Program} {w : World} {K : Frg} {mg : Str → Option Value} {base : Heap} {j k : Nat} {f : Addr} {fd : FuncData} {ps : List Str} {sp : Sp} (F : FnG P w K mg base j f fd ps sp) (le : j ≤ k) : FnG P w K mg base k f fd ps sp :=
  ⟨F.arity, fun A out s H ar us xs Q E room => F.runs A out s H ar us xs Q E (room.mono le)⟩
theorem fnG_of {P : Program} {w : World} {K : Frg} {mg : Str → Option Value} {base : Heap} {x qual : Str} {st : Stmt} {f : Addr} {fd : FuncData} {N ps : List Str} {k : Nat} {sp : Sp} (F : Fun K x qual st f fd) (Sc : FnScope N ps (defScope st))
    (ar0 : ∀ xs H Q E, sp xs H Q E → xs.length = ps.length)
    (body : ∀ (cdv : Value) (A : Around) (out : List PySem.Env) (s : Shared) (H : Hp) (xs : List V) (Q : VK) (E : XK), Room k (A.deeper (envOfC qual (defScope st) s.heap.objs.size f cdv)) → A.guards = some [] → sp xs H Q E →
      ∃ t, PSs (cxOf CX0 P w K mg base N qual (defScope st) f cdv A out s H E).nox (defBody st) t ∧ t { nx := fun _ H' => Q .non H', rt := Q } (L2.start N xs) H) : FnG P w K mg base (k + 1) f fd ps sp := by
  obtain ⟨oc, od, kV, dc, pm, an, cdv, ct, osl, e_fd, found, code⟩ := F.ex
  subst e_fd
  constructor
  · exact ar0
  · intro A out s H ar us xs Q E room gd env0 bnd rel promise
    have arity := ar0 _ _ _ _ promise
    have inK : K.In s.heap := env0.mod.kin.keeps fun c v q => (env0.bs c v q).1
    have noLim : s.heap.NoLimit := env0.mod.nolimit.keeps fun c v q => (env0.bs c v q).1
    have kinds : ∀ z ∈ ps.zip us, (defScope st).names.lookup z.1 = some .local ∨ ((defScope st).names.lookup z.1 = some .cell ∧ ((cellsFrom (s.heap.objs.size + 1) (defScope st).names []).lookup z.1).isSome = true) := by
      rintro ⟨n, v⟩ hz
      rcases Sc.par n (List.of_mem_zip hz).1 with lo | ce
      · exact Or.inl lo
      · exact Or.inr ⟨ce, PySem.W.cellsFrom_some _ _ _ (Or.inl ce)⟩
    refine codeAny_call_function room.depth (inK _ _ found) rfl Sc.co Sc.gen rfl (PySem.W.codeRec_of inK code) (bnd _ _ _ _ (wpAny_newFunctionEnv_cells Sc.kind kinds fun env' e_env s' frame => ?_))
    subst e_env
    refine ⟨noLim.keeps frame.toInCall.keep, codeAny_func ?_⟩
    obtain ⟨t, walk, holds⟩ := body cdv A out s H xs Q E (room.deeper _) gd promise
    have inv0 : Inv (cxOf CX0 P w K mg base N qual (defScope st) f cdv A out s H E) [] (L2.start N xs) H s' := inv_start Sc room.hd env0 arity rel frame
    refine wpAny_mono (walk.nox.run [] s' (L2.start N xs) H _ inv0 holds) ?_ fun e s2 q => q
    intro fl s2 ends
    cases fl with
    | ret u =>
      obtain ⟨v, σ2, H2, inv2, rel2, q⟩ := ends
      exact ⟨v, H2, inv2.os, inv2.bare, inv2.base, inv2.hok, rel2, q⟩
    | next =>
      obtain ⟨σ2, H2, inv2, q⟩ := ends
      exact ⟨V.non, H2, inv2.os, inv2.bare, inv2.base, inv2.hok, rfl, q⟩
    | brk =>
      obtain ⟨_, _, _, q⟩ := ends
      exact q.elim
    | cont =>
      obtain ⟨_, _, _, q⟩ := ends
      exact q.elim
section
variable {x : Str} {p : Pos} {e : Expr} {es : List Expr} {k : Nat} {fa : Addr} {fd : FuncData} {ps : List Str} {sp : Sp} {t : TA}
theorem runG {pins : List (Addr × Obj)} {s : Shared} {us : List Value} {xs : List V} (F : FnG X.prog X.w X.K X.mg X.base k fa fd ps sp) (room : Room k X.A) (gd : X.A.guards = some []) (hb : Binds X.K fd ps []) (I : Inv X pins σ H s) (r : Vals xs us) (h : sp xs H Q E0) :
    wpAny (model X.prog X.w) X.A (call (.ref fa) us) (EP X pins σ Q) X.xe s := by
  have n : us.length = ps.length := r.length.symm.trans (F.arity _ _ _ _ h)
  have b := hb s us I.kIn (by rw [List.append_nil]; exact n)
  rw [List.append_nil] at b
  refine wpAny_call (codeAny_mono (F.runs X.A X.stack s H ⟨us, []⟩ us xs Q E0 room gd I.env0 b r h) ?_)
  intro res s2 q
  match res, q with
  | .ok (.ret u), q => exact I.after q
  | .ok .next, q => exact q.elim
  | .ok .brk, q => exact q.elim
  | .ok .cont, q => exact q.elim
  | .error e, q => exact q.elim
def tCl (sp : Sp) (t : TA) : TE := fun σ H Q => t σ H fun xs H1 => sp xs H1 Q E0
theorem peG (F : FnG X.prog X.w X.K X.mg X.base k fa fd ps sp) (room : Room k X.A) (gd : X.A.guards = some []) (hg : Gl X x) (hm : X.mg x = some (.ref fa)) (hk : PySem.W.keepIn X.K (.ref fa) = true) (hb : Binds X.K fd ps [])
    (ha : PA X (e :: es) t) (hdb : (x == ("__debug__" : Str)) = false := by decide) (he : starEach (e :: es) X.env = (false, eval e X.env) :: starEach es X.env := by rfl) (hpl : (backTo pos (starEach es X.env)).any (·.1) = false := by rfl) :
    PE X (.Call (.Name x p) (e :: es) [] pos) (tCl sp t) := by
  constructor
  intro pins s σ H Q I h
  refine wpAny_Call_Name_kw (ld_glob I hg hm (PySem.W.callWith_K (h₀ := X.base) I.ok.mod.kin hk (thn (ha.run pos pins s σ H _ I h) ?_) he hpl) hdb)
  rintro us s2 ⟨xs, H2, I2, r, q⟩
  exact ⟨I2.kIn, runG F room gd hb I2 r q⟩
theorem peG0 (F : FnG X.prog X.w X.K X.mg X.base k fa fd ps sp) (room : Room k X.A) (gd : X.A.guards = some []) (hg : Gl X x) (hm : X.mg x = some (.ref fa)) (hk : PySem.W.keepIn X.K (.ref fa) = true) (hb : Binds X.K fd ps [])
    (hdb : (x == ("__debug__" : Str)) = false := by decide) : PE X (.Call (.Name x p) [] [] pos) (fun _ H Q => sp [] H Q E0) := by
  constructor
  intro pins s σ H Q I h
  exact wpAny_Call_Name_kw (ld_glob I hg hm (PySem.W.callWith_K0 I.kIn hk (runG (us := []) F room gd hb I .nil h)) hdb)
end
abbrev Fn := List Val → Sto → Res Val
/-- a def keeps its mirror -/
def spF (K : Frg) (m : Fn) : Sp := fun xs H Q _ => rB K m xs H Q
section
variable {x : Str} {p : Pos} {e : Expr} {es : List Expr} {f : SA} {k : Nat} {fa : Addr} {fd : FuncData} {ps : List Str} {m : Fn}
theorem eF (F : FnG X.prog X.w X.K X.mg X.base k fa fd ps (spF X.K m)) (hr : Room k X.A) (gd : X.A.guards = some []) (hg : Gl X x) (hm : X.mg x = some (.ref fa)) (hk : PySem.W.keepIn X.K (.ref fa) = true) (hb : Binds X.K fd ps [])
    (ha : PA X (e :: es) (tAr X.K f)) (hdb : (x == ("__debug__" : Str)) = false := by decide) (he : starEach (e :: es) X.env = (false, eval e X.env) :: starEach es X.env := by rfl) (hpl : (backTo pos (starEach es X.env)).any (·.1) = false := by rfl) :
    PE X (.Call (.Name x p) (e :: es) [] pos) (tE X.K (evCall m f)) :=
  PEi (peG F hr gd hg hm hk hb ha hdb he hpl) fun σ H Q ⟨A, S, ρ, w, env, p⟩ => ⟨A, S, ρ, w, env, PostA.seq (P := Post X.K A H Q) p (fun h => h) (fun _ _ h => h) fun vs S1 xs H1 e1 w1 r1 p1 => ⟨A, S1, vs, w1, r1, p1.shift e1 w1⟩⟩
theorem eF0 (F : FnG X.prog X.w X.K X.mg X.base k fa fd ps (spF X.K m)) (hr : Room k X.A) (gd : X.A.guards = some []) (hg : Gl X x) (hm : X.mg x = some (.ref fa)) (hk : PySem.W.keepIn X.K (.ref fa) = true) (hb : Binds X.K fd ps [])
    (hdb : (x == ("__debug__" : Str)) = false := by decide) : PE X (.Call (.Name x p) [] [] pos) (tE X.K (evCall m aNil)) :=
  PEi (peG0 F hr gd hg hm hk hb hdb) fun σ H Q ⟨A, S, ρ, w, env, p⟩ => ⟨A, S, [], w, .nil, p⟩
end

/-! ### targets -/
structure Bnd where
  sl : List Nat
  go : PyData → Envi → Option Envi
def tG (K : Frg) (b : Bnd) : TG := fun v σ H Q => ∃ A ρ x ρ', REnv K A H ρ σ ∧ Rp K A.V H v x ∧ b.go x ρ = some ρ' ∧ ∀ σ' : L2.St, σ'.length = σ.length → (∀ j, j ∉ b.sl → σ'[j]? = σ[j]?) → REnv K A H ρ' σ' → Q σ' H
def bName (i : Nat) : Bnd := ⟨[i], fun x ρ => some (ρ.set i (some (.d x)))⟩
theorem REnv.set {i : Nat} {x : V} {v : Val} (env : REnv K A H ρ σ) (r : Rv K A H x v) : REnv K A H (ρ.set i (some v)) (σ.set i (some x)) := by
  refine ⟨by rw [List.length_set, List.length_set]; exact env.len, fun j u h => ?_⟩
  by_cases e : j = i
  · subst e
    have hl : j < ρ.length := by
      have := (List.getElem?_eq_some_iff.mp h).1
      rwa [List.length_set] at this
    rw [List.getElem?_set_self hl] at h
    cases h
    exact ⟨x, by rw [List.getElem?_set_self (by rw [env.len]; exact hl)], r⟩
  · rw [List.getElem?_set_ne (Ne.symm e)] at h
    obtain ⟨y, h1, h2⟩ := env.get j u h
    exact ⟨y, by rw [List.getElem?_set_ne (Ne.symm e)]; exact h1, h2⟩
theorem gN {i : Nat} {x : Str} (hN : X.N.Nodup) (hi : X.N[i]? = some x) (hx : Loc X.env.scope x) (hf : X.fn x = true ∨ X.env.scope.names.lookup x = some .local := by first | exact .inl rfl | exact .inr rfl | assumption) : PG X (.Name x pos) (tG X.K (bName i)) :=
  ⟨fun pins s σ H v u Q I r h => (pg_name hN hi hx hf).run pins s σ H v u Q I r (by
    obtain ⟨A, ρ, y, ρ', env, rp, e, q⟩ := h
    cases e
    refine q _ (by rw [List.length_set]) (fun j hj => ?_) (env.set (v := .d y) rp)
    rw [List.getElem?_set_ne (fun e => hj (by rw [e]; exact List.mem_singleton.mpr rfl))])⟩
def goL : List Bnd → List PyData → Envi → Option Envi
  | [], [], ρ => some ρ
  | b :: bs, x :: xs, ρ => match b.go x ρ with
    | some ρ1 => goL bs xs ρ1
    | none => none
  | _, _, _ => none
def slL (bs : List Bnd) : List Nat := (bs.map (·.sl)).flatten
def bTup (bs : List Bnd) : Bnd := ⟨slL bs, fun x ρ => match x with
  | .tuple ds => goL bs ds ρ
  | _ => none⟩
def tGs (K : Frg) (bs : List Bnd) : TGs := fun vs σ H Q => ∃ A ρ xs ρ', REnv K A H ρ σ ∧ RpL K A.V H vs xs ∧ goL bs xs ρ = some ρ' ∧ ∀ σ' : L2.St, σ'.length = σ.length → (∀ j, j ∉ slL bs → σ'[j]? = σ[j]?) → REnv K A H ρ' σ' → Q σ' H
theorem gsN : PGs X [] (tGs X.K []) := ⟨fun pins s σ H vs us Q I r h => pgs_nil.run pins s σ H vs us Q I r (by
  obtain ⟨A, ρ, xs, ρ', env, rp, e, q⟩ := h
  cases rp with
  | nil => cases e; exact ⟨rfl, q σ rfl (fun _ _ => rfl) env⟩
  | cons _ _ => cases e)⟩
theorem gsC {e : Expr} {es : List Expr} {b : Bnd} {bs : List Bnd} (h1 : PG X e (tG X.K b)) (h2 : PGs X es (tGs X.K bs))
    (hs : (assignEach (e :: es) X.env).map (·.2) = assign e X.env :: (assignEach es X.env).map (·.2) := by rfl) : PGs X (e :: es) (tGs X.K (b :: bs)) :=
  ⟨fun pins s σ H vs us Q I r h => (pgs_cons h1 h2 hs).run pins s σ H vs us Q I r (by
    obtain ⟨A, ρ, xs, ρ', env, rp, e, q⟩ := h
    cases rp with
    | nil => cases e
    | cons r1 r2 =>
      rename_i v vr x xr
      refine ⟨v, vr, rfl, ?_⟩
      unfold goL at e
      split at e
      · rename_i ρ1 h1
        refine ⟨A, ρ, x, ρ1, env, r1, h1, fun σ1 hl hj env1 => ⟨A, ρ1, xr, ρ', env1, r2, e, fun σ2 hl2 hj2 env2 => q σ2 (hl2.trans hl) (fun j hj' => ?_) env2⟩⟩
        have n1 : j ∉ b.sl := fun m => hj' (by unfold slL; exact List.mem_append_left _ m)
        have n2 : j ∉ slL bs := fun m => hj' (by unfold slL; exact List.mem_append_right _ m)
        exact (hj2 j n2).trans (hj j n1)
      · cases e)⟩
theorem goL_len : ∀ {bs : List Bnd} {xs : List PyData} {ρ ρ' : Envi}, goL bs xs ρ = some ρ' → xs.length = bs.length
  | [], [], _, _, _ => rfl
  | [], _ :: _, _, _, h => by cases h
  | _ :: _, [], _, _, h => by cases h
  | b :: bs, x :: xs, ρ, ρ', h => by
    unfold goL at h
    split at h
    · rw [List.length_cons, List.length_cons, goL_len h]
    · cases h
theorem gT {es : List Expr} {k : Nat} {bs : List Bnd} {n : Nat} (hc : X.calm = true) (h : PGs X es (tGs X.K bs)) (hnb : bs.length = n := by rfl)
    (hn : (assignEach es X.env).length = n := by rfl) (hst : (assignEach es X.env).findIdx? (·.1) = none := by rfl) : PG X (.Tuple es k pos) (tG X.K (bTup bs)) :=
  ⟨fun pins s σ H v u Q I r hw => (pg_tup hc h hn hst).run pins s σ H v u Q I r (by
    obtain ⟨A, ρ, x, ρ', env, rp, e, q⟩ := hw
    cases rp with
    | tup l t =>
      rename_i a xs ds
      exact ⟨a, xs, rfl, l.seq, by rw [t.length, goL_len e, hnb], A, ρ, ds, ρ', env, t, e, q⟩
    | _ => cases e)⟩

/-! ### statements -/
def sNil : Ss := fun ρ S => .ok (.nx ρ) S
def sSeq (f g : Ss) : Ss := fun ρ S => (f ρ S).bind fun w S1 => match w with
  | .nx ρ1 => g ρ1 S1
  | .rt v => .ok (.rt v) S1
  | .bk ρ1 => .ok (.bk ρ1) S1
  | .ct ρ1 => .ok (.ct ρ1) S1
theorem ssN : PSs X [] (tS X.K sNil) := PSsi pss_nil fun D σ H ⟨A, S, ρ, w, env, p⟩ => p A σ H .refl w env
theorem seq_ok {f g : Ss} (w : Wf K A S H) (p : PostS K A H D (sSeq f g ρ S)) : PostS K A H { D with nx := tS K g D } (f ρ S) := by
  unfold sSeq at p
  cases h : f ρ S with
  | no => rw [h] at p; exact p
  | exc e S1 => rw [h] at p; exact p
  | ok v S1 =>
    rw [h] at p
    cases v with
    | nx ρ1 => exact fun A' σ' H' e w1 env => ⟨A', S1, ρ1, w1, env, PostS.shift p e w1⟩
    | rt v => exact p
    | bk ρ1 => exact p
    | ct ρ1 => exact p
theorem ssC {st : Stmt} {rest : List Stmt} {f g : Ss} (h1 : PS X st (tS X.K f)) (h2 : PSs X rest (tS X.K g)) : PSs X (st :: rest) (tS X.K (sSeq f g)) := PSsi (pss_cons h1 h2) fun D σ H ⟨A, S, ρ, w, env, p⟩ => ⟨A, S, ρ, w, env, seq_ok w p⟩
theorem ss1 {st : Stmt} {f : Ss} (h1 : PS X st (tS X.K f)) : PSs X [st] (tS X.K f) := pss_one h1
theorem sPass : PS X (.Pass pos) (tS X.K sNil) := PSi ps_pass fun D σ H ⟨A, S, ρ, w, env, p⟩ => p A σ H .refl w env
def sBk : Ss := fun ρ S => .ok (.bk ρ) S
def sCt : Ss := fun ρ S => .ok (.ct ρ) S
theorem sBreak : PS X (.Break pos) (tS X.K sBk) := PSi ps_break fun D σ H ⟨A, S, ρ, w, env, p⟩ => p A σ H .refl w env
theorem sCont : PS X (.Continue pos) (tS X.K sCt) := PSi ps_continue fun D σ H ⟨A, S, ρ, w, env, p⟩ => p A σ H .refl w env
def sEx (f : Sx) : Ss := fun ρ S => (f ρ S).bind fun _ S1 => .ok (.nx ρ) S1
theorem sExpr (h : PE X a (tE X.K fa)) (hs : swapsWith a none pos.line X.env = pure false := by rfl) : PS X (.Expr a pos) (tS X.K (sEx fa)) := PSi (ps_expr h hs) fun D σ H ⟨A, S, ρ, w, env, p⟩ =>
  at_seq (P := PostS X.K A H D) w env p (fun h => h) (fun _ _ h => h) fun v S1 x H1 e1 w1 r1 p1 => p1 A σ H1 e1 w1 (env.mono e1)
def sRt (f : Sx) : Ss := fun ρ S => (f ρ S).bind fun v S1 => .ok (.rt v) S1
theorem sRet (h : PE X a (tE X.K fa)) : PS X (.Return (some a) pos) (tS X.K (sRt fa)) := PSi (ps_ret h) fun D σ H ⟨A, S, ρ, w, env, p⟩ => ⟨A, S, ρ, w, env, by
  show Post X.K A H D.rt (fa ρ S)
  dsimp only [sRt] at p
  cases q : fa ρ S with
  | no => rw [q] at p; exact p
  | exc e S1 => rw [q] at p; exact p
  | ok v S1 =>
    rw [q] at p
    cases v with
    | d x => exact fun v H' e w r => p A v H' e w r
    | c n => exact fun a H' e w r => p A a H' e w r
    | f k => exact fun a H' e w r => p A a H' e w r
    | z ds => exact fun v H' e w r => p A v H' e w r⟩
def sRtN : Ss := fun ρ S => .ok (.rt (.d .none)) S
theorem sRetN : PS X (.Return none pos) (tS X.K sRtN) := PSi ps_retN fun D σ H ⟨A, S, ρ, w, env, p⟩ => p A .non H .refl w .non
def sIf (c : SB) (f g : Ss) : Ss := fun ρ S => (c ρ S).bind fun k S1 => if k = true then f ρ S1 else g ρ S1
theorem sIfR {c : Expr} {p q : List Stmt} {gc : SB} {f g : Ss} (hc : PT X c (tB X.K gc)) (ha : PSs X p (tS X.K f)) (hb : PSs X q (tS X.K g)) : PS X (.If c p q pos) (tS X.K (sIf gc f g)) := PSi (ps_if hc ha hb) fun D σ H ⟨A, S, ρ, w, env, p⟩ =>
  ⟨A, S, ρ, w, env, PostB.seq (P := PostS X.K A H D) p (fun h => h) (fun _ _ h => h) fun k S1 H1 e1 w1 p1 => by
    cases k with
    | true => rw [if_pos rfl] at p1 ⊢; exact ⟨A, S1, ρ, w1, env.mono e1, p1.shift e1 w1⟩
    | false => rw [if_neg Bool.false_ne_true] at p1 ⊢; exact ⟨A, S1, ρ, w1, env.mono e1, p1.shift e1 w1⟩⟩
def sSet (i : Nat) (f : Sx) : Ss := fun ρ S => (f ρ S).bind fun v S1 => .ok (.nx (ρ.set i (some v.th))) S1
def sCell (i : Nat) (f : Sx) : Ss := fun ρ S => (f ρ S).bind fun v S1 => match v with
  | .f k => .ok (.nx (ρ.set i (some (.c S1.length)))) (S1 ++ [k])
  | _ => .no
theorem set_ok {i : Nat} {f : Sx} (h : tS K (sSet i f) D σ H) : tAsg (tE K f) (gName i) D σ H := by
  obtain ⟨A, S, ρ, w, env, p⟩ := h
  exact at_seq (P := PostS K A H D) w env p (fun h => h) (fun _ _ h => h) fun v S1 x H1 e1 w1 r1 p1 => p1 A _ H1 e1 w1 ((env.mono e1).set r1)
theorem cell_ok {i : Nat} {f : Sx} (h : tS K (sCell i f) D σ H) : tAsg (tE K f) (gName i) D σ H := by
  obtain ⟨A, S, ρ, w, env, p⟩ := h
  refine ⟨A, S, ρ, w, env, ?_⟩
  show Post K A H _ (f ρ S)
  dsimp only [sCell] at p
  cases q : f ρ S with
  | no => rw [q] at p; exact p
  | exc e S1 => rw [q] at p; exact p
  | ok v S1 =>
    rw [q] at p
    cases v with
    | d x => exact p.elim
    | c n => exact p.elim
    | z ds => exact p.elim
    | f k =>
      intro a H' e w1 hn
      have e2 : Ext A H (A.push a) H' := e.grow hn
      refine p (A.push a) (σ.set i (some (.ref a))) H' e2 w1 ((env.mono e2).set (v := .c S1.length) ⟨a, ?_, rfl⟩)
      show (A.A ++ [a])[S1.length]? = some a
      rw [← w1.drop1.1.len]; simp
section
variable {i : Nat} {x : Str} {pos' : Pos}
theorem sSetR (i : Nat) (hN : X.N.Nodup) (hi : X.N[i]? = some x) (hx : Loc X.env.scope x) (he : PE X a (tE X.K fa)) (hs : swapsWith a (some (.Name x pos')) pos.line X.env = pure false := by rfl)
    (hf : X.fn x = true ∨ X.env.scope.names.lookup x = some .local := by first | exact .inl rfl | exact .inr rfl | assumption) : PS X (.Assign [.Name x pos'] a pos) (tS X.K (sSet i fa)) := PSi (ps_set hN hi hx he hs hf) fun D σ H => set_ok
theorem sCellR (i : Nat) (hN : X.N.Nodup) (hi : X.N[i]? = some x) (hx : Loc X.env.scope x) (he : PE X a (tE X.K fa)) (hs : swapsWith a (some (.Name x pos')) pos.line X.env = pure false := by rfl)
    (hf : X.fn x = true ∨ X.env.scope.names.lookup x = some .local := by first | exact .inl rfl | exact .inr rfl | assumption) : PS X (.Assign [.Name x pos'] a pos) (tS X.K (sCell i fa)) := PSi (ps_set hN hi hx he hs hf) fun D σ H => cell_ok
end
def sAsg (f : Sx) (b : Bnd) : Ss := fun ρ S => (f ρ S).bind fun v S1 => match v.th with
  | .d x => match b.go x ρ with
    | some ρ1 => .ok (.nx ρ1) S1
    | none => .no
  | _ => .no
theorem sAsgR {tg : Expr} {bd : Bnd} (he : PE X a (tE X.K fa)) (hg : PG X tg (tG X.K bd)) (hs : swapsWithSole [tg] a pos.line X.env = pure false := by rfl) (hw : swappedStores [tg] a X.env = pure none := by rfl)
    (h1 : (assignEach [tg] X.env).map (·.2) = [assign tg X.env] := by rfl) : PS X (.Assign [tg] a pos) (tS X.K (sAsg fa bd)) := PSi (ps_asg he hg hs hw h1) fun D σ H ⟨A, S, ρ, w, env, p⟩ =>
  at_seq (P := PostS X.K A H D) w env p (fun h => h) (fun _ _ h => h) fun v S1 x H1 e1 w1 r1 p1 => by
    split at p1
    · rename_i y hy
      rw [hy] at r1
      split at p1
      · rename_i ρ1 h1
        exact ⟨A, ρ, y, ρ1, env.mono e1, r1, h1, fun σ' _ _ env' => p1 A σ' H1 e1 w1 env'⟩
      · exact p1.elim
    · exact p1.elim
/-- a, b = x, y of plain locals -/
def sPar (i j : Nat) (f : SA) : Ss := fun ρ S => (f ρ S).bind fun vs S1 => match vs with
  | [v, w] => .ok (.nx ((ρ.set i (some v)).set j (some w))) S1
  | _ => .no
theorem sParR (i j : Nat) {x y : Str} {f : SA} {px py pt : Pos} {kt k2 pt2} (hc : X.calm = true) (hN : X.N.Nodup) (hi : X.N[i]? = some x) (hj : X.N[j]? = some y) (hij : i ≠ j)
    (hx : X.env.scope.names.lookup x = some .local) (hy : X.env.scope.names.lookup y = some .local) (ha : PA X [a, b] (tAr X.K f)) (hs : swappedStores [.Tuple [.Name x px, .Name y py] kt pt] (.Tuple [a, b] k2 pt2) X.env = pure (some [x, y]) := by rfl) : PS X (.Assign [.Tuple [.Name x px, .Name y py] kt pt] (.Tuple [a, b] k2 pt2) pos) (tS X.K (sPar i j f)) := PSi (ps_par hc hN hi hj hij hx hy ha hs) fun D σ H ⟨A, S, ρ, w, env, p⟩ =>
  ⟨A, S, ρ, w, env, PostA.seq (P := PostS X.K A H D) p (fun h => h) (fun _ _ h => h) fun vs S1 xs H1 e1 w1 r1 p1 => by
    split at p1
    · cases r1 with | cons r1 r2 => cases r2 with | cons r2 r3 => cases r3; exact ⟨_, _, rfl, p1 A _ H1 e1 w1 (((env.mono e1).set r1).set r2)⟩
    · exact p1.elim⟩
/-! ### while -/
def sWhN (c : SB) (b : Ss) : Nat → Ss
  | 0 => fun _ _ => .no
  | n + 1 => fun ρ S => (c ρ S).bind fun k S1 => if k = true then (b ρ S1).bind fun w S2 => match w with
      | .nx ρ1 => sWhN c b n ρ1 S2
      | .ct ρ1 => sWhN c b n ρ1 S2
      | .bk ρ1 => .ok (.nx ρ1) S2
      | .rt v => .ok (.rt v) S2
    else .ok (.nx ρ) S1
theorem sWhile (n : Nat) {c : Expr} {body : List Stmt} {gc : SB} {f : Ss} (hp : PassesOwn (model X.prog X.w) X.A X.env X.xe) (hc : PT X c (tB X.K gc)) (hb : PSs X body (tS X.K f)) : PS X (.While c body [] pos) (tS X.K (sWhN gc f n)) := PSi (ps_while hp hc hb) fun D σ H h => by
  refine ⟨fun m σ H => tS X.K (sWhN gc f m) D σ H, ⟨n, h⟩, ?_⟩
  rintro m σ H ⟨A, S, ρ, w, env, p⟩
  cases m with
  | zero => exact p.elim
  | succ m =>
    refine ⟨A, S, ρ, w, env, PostB.seq (P := PostS X.K A H D) p (fun h => h) (fun _ _ h => h) fun k S1 H1 e1 w1 p1 => ?_⟩
    cases k with
    | false => exact p1 A σ H1 e1 w1 (env.mono e1)
    | true =>
      have p1 : PostS X.K A H1 D ((f ρ S1).bind fun w S2 => match w with
        | .nx ρ1 => sWhN gc f m ρ1 S2
        | .ct ρ1 => sWhN gc f m ρ1 S2
        | .bk ρ1 => .ok (.nx ρ1) S2
        | .rt v => .ok (.rt v) S2) := PostS.shift p1 e1 w1
      rw [if_pos rfl]
      refine ⟨fun σ' H' => tS X.K (sWhN gc f m) D σ' H', fun σ' H' h => ⟨m, Nat.lt_succ_self m, h⟩, A, S1, ρ, w1, env.mono e1, ?_⟩
      show PostS X.K A H1 _ (f ρ S1)
      cases q : f ρ S1 with
      | no => rw [q] at p1; exact p1
      | exc e S2 => rw [q] at p1; exact p1
      | ok v S2 =>
        rw [q] at p1
        cases v with
        | nx ρ1 => exact fun A' σ' H' e w2 env2 => ⟨A', S2, ρ1, w2, env2, PostS.shift p1 e w2⟩
        | ct ρ1 => exact fun A' σ' H' e w2 env2 => ⟨A', S2, ρ1, w2, env2, PostS.shift p1 e w2⟩
        | bk ρ1 => exact p1
        | rt v => exact p1
/-! ### for -/
structure Src where
  items : List PyData
  g : List (Nat × List PyData)
abbrev SI := Envi → Sto → Res Src
def GOk (S : Sto) (s : Src) : Prop := ∀ p ∈ s.g, S[p.1]? = some (.lst p.2)
open Classical in
noncomputable def chk {α : Type} (S : Sto) (s : Src) (r : Res α) : Res α := if GOk S s then r else .no
structure SrcW (K : Frg) (J : It) (s : Src) (B : Wd → Hp → Prop) : Prop where
  mono : ∀ A H A' H', Kx A H A' H' → B A H → B A' H'
  goes : ∀ i A S H, i < s.items.length → Wf K A S H → B A H → GOk S s → J.go i H
  stops : ∀ A S H, Wf K A S H → B A H → GOk S s → J.stop s.items.length H
  yields : ∀ i A S H x H', i < s.items.length → Wf K A S H → B A H → GOk S s → J.yld i H x H' → ∃ d, s.items[i]? = some d ∧ Ext A H A H' ∧ Wf K A S H' ∧ Rp K A.V H' x d
def PostI (K : Frg) (A : Wd) (H : Hp) (R : It → Hp → Prop) : Res Src → Prop
  | .ok s S => ∀ J B H', Ext A H A H' → Wf K A S H' → SrcW K J s B → B A H' → R J H'
  | .exc _ _ => False
  | .no => False
def tI (K : Frg) (f : SI) : TI := fun σ H R => At K σ H fun A ρ S => PostI K A H R (f ρ S)
theorem PostI.seq {β : Type} {P : Res β → Prop} {R : It → Hp → Prop} {r : Res Src} {g : Src → Sto → Res β} (h : P (r.bind g)) (h0 : P .no → False) (h1 : ∀ e S, P (.exc e S) → False)
    (k : ∀ s S1 J B H1, Ext A H A H1 → Wf K A S1 H1 → SrcW K J s B → B A H1 → P (g s S1) → R J H1) : PostI K A H R r := by
  cases r with
  | ok v S1 => exact fun J B H1 e w sw b => k v S1 J B H1 e w sw b h
  | exc e S => exact (h1 _ _ h).elim
  | no => exact (h0 h).elim
theorem chk_ok {β : Type} {P : Res β → Prop} {s : Src} {r : Res β} (h : P (chk S s r)) (h0 : P .no → False) : GOk S s ∧ P r := by
  unfold chk at h
  split at h
  · rename_i g; exact ⟨g, h⟩
  · exact (h0 h).elim
noncomputable def forGo (s : Src) (bd : Bnd) (b : Ss) : List PyData → Ss
  | [] => fun ρ S => chk S s (.ok (.nx ρ) S)
  | x :: xs => fun ρ S => chk S s (match bd.go x ρ with
    | some ρ1 => (b ρ1 S).bind fun w S2 => match w with
      | .nx ρ2 => forGo s bd b xs ρ2 S2
      | .ct ρ2 => forGo s bd b xs ρ2 S2
      | .bk ρ2 => .ok (.nx ρ2) S2
      | .rt v => .ok (.rt v) S2
    | none => .no)
noncomputable def sFo (src : SI) (bd : Bnd) (b : Ss) : Ss := fun ρ S => (src ρ S).bind fun s S1 => forGo s bd b s.items ρ S1
theorem sFor {tg iter : Expr} {body : List Stmt} {src : SI} {bd : Bnd} {f : Ss} (hp : PassesOwn (model X.prog X.w) X.A X.env X.xe) (hc : X.calm = true) (hi : PI X tg iter (tI X.K src)) (hg : PG X tg (tG X.K bd)) (hb : PSs X body (tS X.K f))
    (hs : ∀ x, foldedSetIterable iter X.env x = pure x := by intro _; rfl) : PS X (.For tg iter body [] pos) (tS X.K (sFo src bd f)) := PSi (ps_for hp hc hi hg hb hs) fun D σ H h => by
  obtain ⟨A, S, ρ, w, env, p⟩ := h
  refine ⟨A, S, ρ, w, env, PostI.seq (P := PostS X.K A H D) p (fun h => h) (fun _ _ h => h) fun s S1 J B H1 e1 w1 sw b1 p1 => ?_⟩
  refine ⟨fun i m σ H => i + m = s.items.length ∧ ∃ A S ρ, Wf X.K A S H ∧ REnv X.K A H ρ σ ∧ B A H ∧ PostS X.K A H D (forGo s bd f (s.items.drop i) ρ S), ⟨s.items.length, by simp, A, S1, ρ, w1, env.mono e1, b1, PostS.shift p1 e1 w1⟩, ?_⟩
  rintro i m σ H ⟨him, A, S, ρ, w, env, b, p⟩
  by_cases hi : i < s.items.length
  · rw [List.drop_eq_getElem_cons hi] at p
    obtain ⟨g, p⟩ := chk_ok (P := PostS X.K A H D) p fun h => h
    refine .inr ⟨sw.goes i A S H hi w b g, fun σ' H' => ∃ A S ρ, Wf X.K A S H' ∧ REnv X.K A H' ρ σ' ∧ B A H' ∧ PostS X.K A H' D (forGo s bd f (s.items.drop (i + 1)) ρ S), fun σ' H' h => ⟨m - 1, by omega, by omega, h⟩, fun x H' y => ?_⟩
    obtain ⟨d, hd, e2, w2, r2⟩ := sw.yields i A S H x H' hi w b g y
    rw [List.getElem?_eq_getElem hi] at hd
    cases hd
    split at p
    · rename_i ρ1 hρ
      refine ⟨A, ρ, _, ρ1, env.mono e2, r2, hρ, fun σ2 _ _ env2 => ⟨A, S, ρ1, w2, env2, ?_⟩⟩
      have p := PostS.shift p e2 w2
      have b2 := sw.mono _ _ _ _ e2.kx b
      show PostS X.K A H' _ (f ρ1 S)
      cases q : f ρ1 S with
      | no => rw [q] at p; exact p
      | exc e S2 => rw [q] at p; exact p
      | ok v S2 =>
        rw [q] at p
        cases v with
        | nx ρ2 => exact fun A' σ' H' e w3 env3 => ⟨A', S2, ρ2, w3, env3, sw.mono _ _ _ _ e.kx b2, PostS.shift p e w3⟩
        | ct ρ2 => exact fun A' σ' H' e w3 env3 => ⟨A', S2, ρ2, w3, env3, sw.mono _ _ _ _ e.kx b2, PostS.shift p e w3⟩
        | bk ρ2 => exact p
        | rt v => exact p
    · exact p.elim
  · have hn : i = s.items.length := by omega
    subst hn
    rw [List.drop_length] at p
    obtain ⟨g, p⟩ := chk_ok (P := PostS X.K A H D) p fun h => h
    exact .inl ⟨sw.stops A S H w b g, p A σ H .refl w env⟩
end
end MV
set_option Elab.async false
set_option linter.all false
set_option maxRecDepth 100000
/-! Readings by mirrors: comprehensions, what is walked, defs. -/
namespace MV
open PySem PySem.Spec PyProof.Rows L2
section
variable {X : Cx} {K : Frg} {a b : Expr} {fa fb : Sx} {pos : Pos} {A A' A2 : Wd} {H H' H2 : Hp} {S S' : Sto} {Q : VK} {ρ : Envi} {σ : L2.St} {D : Ends}
theorem Rv.kx {v : V} {x : Val} (e : Kx A H A' H') (r : Rv K A H v x) : Rv K A' H' v x := by
  cases x with
  | d x => exact Rp.mono e.2 r
  | c n =>
    obtain ⟨a, h, rfl⟩ := r
    obtain ⟨B, e1⟩ := e.1
    exact ⟨a, by rw [e1, List.getElem?_append_left (List.getElem?_eq_some_iff.mp h).1]; exact h, rfl⟩
  | f k => exact r
  | z ds => obtain ⟨a, xs, rfl, h, t⟩ := r; exact ⟨a, xs, rfl, h.imp (fun q => e.2.rd q.1 q.2) id, t.mono e.2⟩
theorem REnv.kx (e : Kx A H A' H') (r : REnv K A H ρ σ) : REnv K A' H' ρ σ := ⟨r.len, fun i v h => by
  obtain ⟨x, h1, h2⟩ := r.get i v h
  exact ⟨x, h1, h2.kx e⟩⟩
theorem Wf.protNew {p : Addr} {u : HO} (mu : Mut (some u)) (w : Wf K A S H) (hp : H p = none) : Wf K (A.prot p) S (L2.upd H p u) ∧ Kx A H (A.prot p) (L2.upd H p u) := by
  have kp : Kp A.V H (A.prot p).V (L2.upd H p u) := fun b o h n => ⟨by rw [upd_ne (ne_of_none h hp)]; exact h, fun m => by
    rcases prot_V.mp m with m | m
    · exact n m
    · rw [m, hp] at h; cases h⟩
  refine ⟨⟨w.len, w.nd, fun n c k h1 h2 => (w.ok n c k h1 h2).mono kp fun u e => by rw [upd_ne (ne_of_none e hp)]; exact e, fun q hq => ?_⟩, ⟨[], by simp [Wd.prot]⟩, kp⟩
  rcases List.mem_cons.mp (show q ∈ p :: A.P from hq) with m | m
  · rw [m]; exact ⟨w.offA hp, _, upd_same, mu⟩
  · obtain ⟨n, xs, e, mt⟩ := w.pr q m
    exact ⟨n, xs, by rw [upd_ne (ne_of_none e hp)]; exact e, mt⟩
theorem Wf.protUpd {p : Addr} {u : HO} (mu : Mut (some u)) (w : Wf K A S H) (hp : p ∈ A.P) : Wf K A S (L2.upd H p u) ∧ Kx A H A (L2.upd H p u) := by
  have kp : Kp A.V H A.V (L2.upd H p u) := fun b o h n => ⟨by rw [upd_ne (fun z => n (by rw [z]; exact Wd.mem.mpr (.inl hp)))]; exact h, n⟩
  refine ⟨⟨w.len, w.nd, fun n c k h1 h2 => (w.ok n c k h1 h2).mono kp fun u e => ?_, fun q hq => ?_⟩, ⟨[], by simp⟩, kp⟩
  · rw [upd_ne (fun z => (w.pr p hp).1 (by rw [← z]; exact List.mem_of_getElem? h1))]; exact e
  · by_cases z : q = p
    · rw [z]; exact ⟨(w.pr p hp).1, _, upd_same, mu⟩
    · obtain ⟨n, ys, e, mt⟩ := w.pr q hq
      exact ⟨n, ys, by rw [upd_ne z]; exact e, mt⟩
theorem Wf.protOut {p : Addr} {k : Cell} (w : Wf K (A.prot p) S H) (hx : CellOk K (A.prot p) H p k) (hn : p ∉ A.P) : Wf K (A.push p) (S ++ [k]) H := by
  have kp : Kp (A.prot p).V H (A.push p).V H := kp_less fun b m => prot_V.mpr (push_V.mp m)
  obtain ⟨npA, _⟩ := w.pr p (List.mem_cons_self)
  refine ⟨by simp [Wd.push]; exact w.len, ?_, fun n c k h1 h2 => ?_, fun q hq => ?_⟩
  · show (A.A ++ [p]).Nodup
    rw [List.nodup_append]
    exact ⟨w.nd, by simp, fun x hx y hy e => by rw [List.mem_singleton.mp hy] at e; exact npA (e ▸ hx)⟩
  · have h1' : (A.A ++ [p])[n]? = some c := h1
    have hl : A.A.length = S.length := w.len
    by_cases hn : n < A.A.length
    · rw [List.getElem?_append_left hn] at h1'
      rw [List.getElem?_append_left (by rw [← hl]; exact hn)] at h2
      exact (w.ok n c k h1' h2).mono kp fun _ h => h
    · have e2 : n = A.A.length := by
        have := (List.getElem?_eq_some_iff.mp h1').1
        simp at this
        omega
      subst e2
      rw [hl] at h2
      simp at h1' h2
      subst h1' h2
      exact hx.mono kp fun _ h => h
  · obtain ⟨n, y⟩ := w.pr q (List.mem_cons_of_mem _ hq)
    refine ⟨fun m => ?_, y⟩
    rcases List.mem_append.mp m with m | m
    · exact n m
    · rw [List.mem_singleton.mp m] at hq; exact hn hq

/-! ### comprehensions -/
def wipeE (ρ : Envi) (vs : List Nat) : Envi := vs.foldl (fun r i => r.set i none) ρ
theorem wipeE_length (ρ : Envi) : ∀ vs : List Nat, (wipeE ρ vs).length = ρ.length := fun vs => by
  unfold wipeE
  induction vs generalizing ρ with
  | nil => rfl
  | cons v vs ih => rw [List.foldl_cons, ih, List.length_set]
theorem wipeE_get {i : Nat} {v : Val} : ∀ {vs : List Nat} {ρ : Envi}, (wipeE ρ vs)[i]? = some (some v) → ρ[i]? = some (some v) ∧ i ∉ vs
  | [], ρ, h => ⟨h, by simp⟩
  | j :: vs, ρ, h => by
    obtain ⟨h1, h2⟩ := wipeE_get (vs := vs) (ρ := ρ.set j none) h
    by_cases e : i = j
    · subst e
      have hl : i < ρ.length := by
        have := (List.getElem?_eq_some_iff.mp h1).1
        rwa [List.length_set] at this
      rw [List.getElem?_set_self hl] at h1
      cases h1
    · rw [List.getElem?_set_ne (Ne.symm e)] at h1
      exact ⟨h1, by simp [e, h2]⟩
theorem REnv.wipe (env : REnv K A H ρ σ) (vs : List Nat) : REnv K A H (wipeE ρ vs) (wipe σ vs) := ⟨by rw [wipe_length, wipeE_length]; exact env.len, fun i v h => by
  obtain ⟨h1, h2⟩ := wipeE_get h
  obtain ⟨x, h3, h4⟩ := env.get i v h1
  have z : ∀ {vs : List Nat} {σ : L2.St}, i ∉ vs → (L2.wipe σ vs)[i]? = σ[i]? := by
    intro vs
    induction vs with
    | nil => intro σ _; rfl
    | cons j vs ih =>
      intro σ hn
      rw [List.mem_cons, not_or] at hn
      show ((L2.wipe σ vs).set j none)[i]? = _
      rw [List.getElem?_set_ne (Ne.symm hn.1)]
      exact ih hn.2
  exact ⟨x, by rw [z h2]; exact h3, h4⟩⟩
noncomputable def cGo (s : Src) (bd : Bnd) (t : SB) (e : Sx) (ρ : Envi) : List PyData → List PyData → Sto → Res (List PyData)
  | [], acc, S => chk S s (.ok acc S)
  | x :: xs, acc, S => chk S s (match bd.go x ρ with
    | some ρ1 => (t ρ1 S).bind fun k S1 => if k = true then (e ρ1 S1).bind fun v S2 => match v.th with
          | .d y => cGo s bd t e ρ xs (acc ++ [y]) S2
          | _ => .no
        else cGo s bd t e ρ xs acc S1
    | none => .no)
noncomputable def evComp (src : SI) (bd : Bnd) (t : SB) (e : Sx) (own : List Nat) : Sx := fun ρ S => (src ρ S).bind fun s S1 =>
  if s.items.length ≤ sizeLine then (cGo s bd t e (wipeE ρ own) s.items [] S1).bind fun ds S2 => .ok (.f (.lst ds)) S2 else .no
def bYes : SB := fun _ S => .ok true S
theorem wipe_back {σ σ2 : L2.St} {vs : List Nat} (hl : σ2.length = (wipe σ vs).length) (h : ∀ j, j ∉ vs → σ2[j]? = (wipe σ vs)[j]?) : wipe σ2 vs = wipe σ vs := by
  have key : ∀ (vs : List Nat) (σ : L2.St) (i : Nat), (L2.wipe σ vs)[i]? = if i ∈ vs then (if i < σ.length then some none else none) else σ[i]? := by
    intro vs
    induction vs with
    | nil => intro σ i; rfl
    | cons j vs ih =>
      intro σ i
      show ((L2.wipe σ vs).set j none)[i]? = _
      by_cases e : i = j
      · subst e
        rw [if_pos (List.mem_cons_self)]
        by_cases hi : i < σ.length
        · rw [if_pos hi, List.getElem?_set_self (by rw [wipe_length]; exact hi)]
        · rw [if_neg hi]
          exact List.getElem?_eq_none_iff.mpr (by rw [List.length_set, wipe_length]; omega)
      · rw [List.getElem?_set_ne (Ne.symm e), ih]
        simp [e]
  apply List.ext_getElem?
  intro i
  rw [key, key]
  rw [wipe_length] at hl
  by_cases hi : i ∈ vs
  · rw [if_pos hi, if_pos hi, hl]
  · rw [if_neg hi, if_neg hi, h i hi, key, if_neg hi]
theorem comp_ok {src : SI} {bd : Bnd} {t : SB} {e : Sx} {own : List Nat} (hsub : ∀ j ∈ bd.sl, j ∈ own) (h : tE K (evComp src bd t e own) σ H Q) : tLc (tI K src) (tG K bd) (tB K t) (tE K e) own σ H Q := by
  obtain ⟨A, S, ρ, w, env, p⟩ := h
  refine ⟨A, S, ρ, w, env, PostI.seq (P := Post K A H Q) p (fun h => h) (fun _ _ h => h) fun s S1 J B H1 e1 w1 sw b1 p1 => ?_⟩
  split at p1
  case isFalse => exact p1.elim
  rename_i hlen
  intro D hD
  have hDP : D ∉ A.P := fun m => w1.off hD (Wd.mem.mpr (.inl m))
  obtain ⟨wD, kD⟩ := w1.protNew (u := .lst []) trivial hD
  have envD := ((env.mono e1).wipe own).kx kD
  refine ⟨fun i m H' => i + m = s.items.length ∧ ∃ S acc xs, acc.length ≤ i ∧ Wf K (A.prot D) S H' ∧ Ext A H1 A H' ∧ H' D = some (.lst xs) ∧ RpL K (A.prot D).V H' xs acc ∧ B (A.prot D) H' ∧ REnv K (A.prot D) H' (wipeE ρ own) (wipe σ own) ∧
      Post K A H Q ((cGo s bd t e (wipeE ρ own) (s.items.drop i) acc S).bind fun ds S2 => .ok (.f (.lst ds)) S2),
    ⟨s.items.length, by simp, S1, [], [], Nat.zero_le _, wD, .laid hD, upd_same, .nil, sw.mono _ _ _ _ kD b1, envD, p1⟩, ?_⟩
  rintro i m H' ⟨him, S, acc, xs, hacc, w, ex, hx, rx, b, env, p⟩
  by_cases hi : i < s.items.length
  · rw [List.drop_eq_getElem_cons hi] at p
    have p : Post K A H Q ((chk S s (match bd.go s.items[i] (wipeE ρ own) with
      | some ρ1 => (t ρ1 S).bind fun k S1 => if k = true then (e ρ1 S1).bind fun v S2 => match v.th with
            | .d y => cGo s bd t e (wipeE ρ own) (s.items.drop (i + 1)) (acc ++ [y]) S2
            | _ => .no
          else cGo s bd t e (wipeE ρ own) (s.items.drop (i + 1)) acc S1
      | none => .no)).bind fun ds S2 => .ok (.f (.lst ds)) S2) := p
    obtain ⟨g, p⟩ := chk_ok (P := fun r => Post K A H Q (Res.bind r fun ds S2 => .ok (.f (.lst ds)) S2)) p fun h => h
    refine .inr ⟨sw.goes i (A.prot D) S H' hi w b g, fun H' => ∃ S acc xs, acc.length ≤ i + 1 ∧ Wf K (A.prot D) S H' ∧ Ext A H1 A H' ∧ H' D = some (.lst xs) ∧ RpL K (A.prot D).V H' xs acc ∧ B (A.prot D) H' ∧ REnv K (A.prot D) H' (wipeE ρ own) (wipe σ own) ∧
      Post K A H Q ((cGo s bd t e (wipeE ρ own) (s.items.drop (i + 1)) acc S).bind fun ds S2 => .ok (.f (.lst ds)) S2), fun H' h => ⟨m - 1, by omega, by omega, h⟩, fun x H'' y => ?_⟩
    obtain ⟨d, hd, e2, w2, r2⟩ := sw.yields i (A.prot D) S H' x H'' hi w b g y
    rw [List.getElem?_eq_getElem hi] at hd
    cases hd
    have toA : ∀ {H3 H4 : Hp}, Ext (A.prot D) H3 (A.prot D) H4 → Ext A H3 A H4 := fun q => ⟨rfl, ⟨[], by simp⟩, fun _ h => .inl h, q.keep⟩
    have nDA : D ∉ (A.prot D).A := (w.pr D (List.mem_cons_self)).1
    split at p
    · rename_i ρ1 hρ
      refine ⟨A.prot D, wipeE ρ own, _, ρ1, env.mono e2, r2, hρ, fun σ2 hl hj env2 => ⟨wipe_back hl fun j hn => hj j fun m => hn (hsub j m), A.prot D, S, ρ1, w2, env2, ?_⟩⟩
      have p : Post K A H Q ((t ρ1 S).bind fun k S1 => (if k = true then (e ρ1 S1).bind fun v S2 => match v.th with
            | .d y => cGo s bd t e (wipeE ρ own) (s.items.drop (i + 1)) (acc ++ [y]) S2
            | _ => .no
          else cGo s bd t e (wipeE ρ own) (s.items.drop (i + 1)) acc S1).bind fun ds S2 => .ok (.f (.lst ds)) S2) := by
        cases q : t ρ1 S with
        | ok k S1 => rw [q] at p; exact p
        | exc x S1 => rw [q] at p; exact p
        | no => rw [q] at p; exact p
      refine PostB.seq (P := Post K A H Q) p (fun h => h) (fun _ _ h => h) fun k S3 H3 e3 w3 p3 => ?_
      cases k with
      | false =>
        rw [if_neg Bool.false_ne_true] at p3 ⊢
        exact ⟨S3, acc, xs, by omega, w3, ex.trans (toA (e2.trans e3)), (e2.trans e3).keep D _ hx nDA, rx.mono (e2.trans e3).kp, sw.mono _ _ _ _ (e2.trans e3).kx b, env.mono (e2.trans e3), p3⟩
      | true =>
        rw [if_pos rfl] at p3 ⊢
        have p3 : Post K A H Q ((e ρ1 S3).bind fun v S2 => (match v.th with
            | .d y => cGo s bd t e (wipeE ρ own) (s.items.drop (i + 1)) (acc ++ [y]) S2
            | _ => .no).bind fun ds S2 => .ok (.f (.lst ds)) S2) := by
          cases q : e ρ1 S3 with
          | ok k S1 => rw [q] at p3; exact p3
          | exc x S1 => rw [q] at p3; exact p3
          | no => rw [q] at p3; exact p3
        refine at_seq (P := Post K A H Q) w3 (env2.mono e3) p3 (fun h => h) (fun _ _ h => h) fun v S4 y H4 e4 w4 r4 p4 => ?_
        split at p4
        · rename_i yd hy
          rw [hy] at r4
          have e24 := (e2.trans e3).trans e4
          have hx4 := e24.keep D _ hx nDA
          obtain ⟨w5, k5⟩ := w4.protUpd (p := D) (u := .lst (xs ++ [y])) trivial (List.mem_cons_self)
          have r4 : Rp K (A.prot D).V H4 y yd := r4
          refine ⟨xs, hx4, ?_, S4, acc ++ [yd], xs ++ [y], by rw [List.length_append, List.length_singleton]; omega, w5, ?_, upd_same, ((rx.mono e24.kp).append (.cons r4 .nil)).mono k5.2, sw.mono _ _ _ _ k5 (sw.mono _ _ _ _ e24.kx b), (env.mono e24).kx k5, p4⟩
          · rw [rx.length]; omega
          · refine ⟨rfl, ⟨[], by simp⟩, fun _ h => .inl h, fun c o hc nc => ?_⟩
            rw [upd_ne (fun z => by rw [z, hD] at hc; cases hc)]
            exact (ex.trans (toA e24)).keep c o hc nc
        · exact p4.elim
    · exact p.elim
  · have hn : i = s.items.length := by omega
    subst hn
    rw [List.drop_length] at p
    obtain ⟨g, p⟩ := chk_ok (P := fun r => Post K A H Q (Res.bind r fun ds S2 => .ok (.f (.lst ds)) S2)) p fun h => h
    exact .inl ⟨sw.stops (A.prot D) S H' w b g, p D H' (e1.trans ex) (w.protOut (k := .lst _) ⟨_, hx, rx⟩ hDP) (e1.free w1 hD)⟩
end
end MV
set_option Elab.async false
set_option linter.all false
set_option maxRecDepth 100000
/-! Readings by mirrors: the rule for comprehensions, what is walked, defs. -/
namespace MV
open PySem PySem.Spec PyProof.Rows L2
section
variable {X : Cx} {K : Frg} {a b : Expr} {fa fb : Sx} {pos : Pos} {A A' A2 : Wd} {H H' H2 : Hp} {S S' : Sto} {Q : VK} {ρ : Envi} {σ : L2.St} {D : Ends}
theorem PTsi {e : List Expr} {t t' : TT} (h : PTs X e t) (i : ∀ σ H Q, t' σ H Q → t σ H Q) : PTs X e t' := ⟨fun pins s σ H Q I q => h.run pins s σ H Q I (i σ H Q q)⟩
theorem PIi {tg it : Expr} {t t' : TI} (h : PI X tg it t) (i : ∀ σ H R, t' σ H R → t σ H R) : PI X tg it t' := ⟨fun pins s σ H R I q => h.run pins s σ H R I (i σ H R q)⟩
theorem tsN : PTs X [] (tB X.K bYes) := PTsi pts_nil fun σ H Q ⟨A, S, ρ, w, env, p⟩ => p H .refl w
theorem ts1 {c : Expr} {g : SB} (h : PT X c (tB X.K g)) : PTs X [c] (tB X.K g) := pts_one h
section
variable {elt tg iter : Expr} {ifs : List Expr} {scope : Scope} {own : List (Str × Nat)} {src : SI} {bd : Bnd} {t : SB} {e : Sx}
theorem eComp (hc : X.calm = true) (hN : X.N.Nodup) (hi : PI X tg iter (tI X.K src)) (ok : BlkOk X.N X.env.scope scope own) (hsub : ∀ j ∈ bd.sl, j ∈ own.map (·.2))
    (hg : ∀ (s : Shared) (H : Hp) (C : Addr) (cl : List (Str × Addr)) (fp : List Addr), PG (X.blk s H scope (compEnvC scope cl C X.env) fp) tg (tG X.K bd)) (ht : ∀ (s : Shared) (H : Hp) (C : Addr) (cl : List (Str × Addr)) (fp : List Addr), PTs (X.blk s H scope (compEnvC scope cl C X.env) fp) ifs (tB X.K t))
    (he : ∀ (s : Shared) (H : Hp) (C : Addr) (cl : List (Str × Addr)) (fp : List Addr), PE (X.blk s H scope (compEnvC scope cl C X.env) fp) elt (tE X.K e)) (hs : ∀ x, foldedSetIterable iter X.env x = pure x := by intro _; rfl) :
    PE X (.ListComp elt [⟨tg, iter, ifs, 0⟩] scope pos) (tE X.K (evComp src bd t e (own.map (·.2)))) := PEi (pe_lc hc hN hi ok hg ht he hs) fun σ H Q => comp_ok hsub
section
variable {i : Nat} {y : Str} {py spos : Pos}
theorem sSetLc (i : Nat) (hc : X.calm = true) (hN : X.N.Nodup) (hy : X.N[i]? = some y) (hyl : X.env.scope.names.lookup y = some .local) (hsw : swapsWith (.ListComp elt [⟨tg, iter, ifs, 0⟩] scope pos) (some (.Name y py)) spos.line X.env = pure true)
    (hi : PI X tg iter (tI X.K src)) (ok : BlkOk X.N X.env.scope scope own) (hsub : ∀ j ∈ bd.sl, j ∈ own.map (·.2))
    (hg : ∀ (s : Shared) (H : Hp) (C : Addr) (cl : List (Str × Addr)) (fp : List Addr), PG (X.blk s H scope (compEnvC scope cl C X.env) fp) tg (tG X.K bd)) (ht : ∀ (s : Shared) (H : Hp) (C : Addr) (cl : List (Str × Addr)) (fp : List Addr), PTs (X.blk s H scope (compEnvC scope cl C X.env) fp) ifs (tB X.K t))
    (he : ∀ (s : Shared) (H : Hp) (C : Addr) (cl : List (Str × Addr)) (fp : List Addr), PE (X.blk s H scope (compEnvC scope cl C X.env) fp) elt (tE X.K e)) (hs : ∀ x, foldedSetIterable iter X.env x = pure x := by intro _; rfl) :
    PS X (.Assign [.Name y py] (.ListComp elt [⟨tg, iter, ifs, 0⟩] scope pos) spos) (tS X.K (sSet i (evComp src bd t e (own.map (·.2))))) := PSi (ps_setLc hc hN hy hyl hsw hi ok hg ht he hs) fun D σ H h => comp_ok hsub (set_ok h)
theorem sCellLc (i : Nat) (hc : X.calm = true) (hN : X.N.Nodup) (hy : X.N[i]? = some y) (hyl : X.env.scope.names.lookup y = some .local) (hsw : swapsWith (.ListComp elt [⟨tg, iter, ifs, 0⟩] scope pos) (some (.Name y py)) spos.line X.env = pure true)
    (hi : PI X tg iter (tI X.K src)) (ok : BlkOk X.N X.env.scope scope own) (hsub : ∀ j ∈ bd.sl, j ∈ own.map (·.2))
    (hg : ∀ (s : Shared) (H : Hp) (C : Addr) (cl : List (Str × Addr)) (fp : List Addr), PG (X.blk s H scope (compEnvC scope cl C X.env) fp) tg (tG X.K bd)) (ht : ∀ (s : Shared) (H : Hp) (C : Addr) (cl : List (Str × Addr)) (fp : List Addr), PTs (X.blk s H scope (compEnvC scope cl C X.env) fp) ifs (tB X.K t))
    (he : ∀ (s : Shared) (H : Hp) (C : Addr) (cl : List (Str × Addr)) (fp : List Addr), PE (X.blk s H scope (compEnvC scope cl C X.env) fp) elt (tE X.K e)) (hs : ∀ x, foldedSetIterable iter X.env x = pure x := by intro _; rfl) :
    PS X (.Assign [.Name y py] (.ListComp elt [⟨tg, iter, ifs, 0⟩] scope pos) spos) (tS X.K (sCell i (evComp src bd t e (own.map (·.2))))) := PSi (ps_setLc hc hN hy hyl hsw hi ok hg ht he hs) fun D σ H h => comp_ok hsub (cell_ok h)
end
end

/-! ### rows of things -/
def seqOf (S : Sto) : Val → Option (Bool × List PyData × List (Nat × List PyData))
  | .d (.tuple ds) => some (true, ds, [])
  | .d (.list ds) => some (false, ds, [])
  | .z ds => some (false, ds, [])
  | .c n => match S[n]? with
    | some (.lst ds) => some (false, ds, [(n, ds)])
    | _ => none
  | _ => none
def SqA (K : Frg) (t : Bool) (H : Hp) (a : Addr) (xs : List V) : Prop := if t = true then SqT K H a xs else SqL K H a xs
theorem seq_stand {x : V} {v : Val} {S0 : Sto} {t : Bool} {ds : List PyData} {g : List (Nat × List PyData)} (h : seqOf S0 v = some (t, ds, g)) (w : Wf K A S H) (r : Rv K A H x v) (hg : ∀ p ∈ g, S[p.1]? = some (.lst p.2)) :
    ∃ a xs, x = .ref a ∧ RpL K A.V H xs ds ∧ SqA K t H a xs := by
  cases v with
  | f k => cases h
  | d y =>
    cases y with
    | tuple es =>
      cases h
      have r' : Rp K A.V H x (.tuple ds) := r
      cases r' with | tup l q => exact ⟨_, _, rfl, q, l.seq⟩
    | list es =>
      cases h
      have r' : Rp K A.V H x (.list ds) := r
      cases r' with | lst l q => exact ⟨_, _, rfl, q, l.seq⟩
    | _ => cases h
  | z es =>
    cases h
    obtain ⟨a, xs, rfl, h1, q⟩ := r
    exact ⟨a, xs, rfl, q, h1.elim (fun z => .inl z.1) klst_seq⟩
  | c n =>
    have h : (match S0[n]? with
      | some (.lst es) => some (false, es, [(n, es)])
      | _ => none) = some (t, ds, g) := h
    split at h
    · rename_i es q
      cases h
      have e := hg (n, ds) (by simp)
      obtain ⟨a, h1, rfl⟩ := r
      obtain ⟨xs, h2, h3⟩ := w.ok n a _ h1 e
      exact ⟨a, xs, rfl, h3, .inl (.inl h2)⟩
    · cases h
theorem seq_now {v : Val} {t : Bool} {ds : List PyData} {g : List (Nat × List PyData)} (h : seqOf S v = some (t, ds, g)) : ∀ p ∈ g, S[p.1]? = some (.lst p.2) := by
  cases v with
  | f k => cases h
  | d y => cases y <;> first | (cases h; done) | (cases h; simp)
  | z es => cases h; simp
  | c n =>
    have h : (match S[n]? with
      | some (.lst es) => some (false, es, [(n, es)])
      | _ => none) = some (t, ds, g) := h
    split at h
    · rename_i es q
      cases h
      simpa using q
    · cases h
theorem seq_at {x : V} {v : Val} {t : Bool} {ds : List PyData} {g : List (Nat × List PyData)} (h : seqOf S v = some (t, ds, g)) (w : Wf K A S H) (r : Rv K A H x v) : ∃ a xs, x = .ref a ∧ RpL K A.V H xs ds ∧ SqA K t H a xs := seq_stand h w r (seq_now h)

/-! ### what is walked: a row -/
theorem src_list {v : Val} {S0 : Sto} {ds : List PyData} {g : List (Nat × List PyData)} {a : Addr} (h : seqOf S0 v = some (false, ds, g)) : SrcW K (Itl K a) ⟨ds, g⟩ (fun A H => Rv K A H (.ref a) v) where
  mono := fun A H A' H' e r => r.kx e
  goes := fun i A S H hi w r gk => by
    obtain ⟨b, xs, eb, q, sq⟩ := seq_stand h w r gk
    cases eb
    obtain ⟨y, hy, _⟩ := q.get (List.getElem?_eq_getElem hi)
    exact ⟨xs, y, sq, hy⟩
  stops := fun A S H w r gk => by
    obtain ⟨b, xs, eb, q, sq⟩ := seq_stand h w r gk
    cases eb
    exact ⟨xs, sq, Nat.le_of_eq q.length⟩
  yields := fun i A S H x H' hi w r gk y => by
    obtain ⟨b, xs, eb, q, sq⟩ := seq_stand h w r gk
    cases eb
    obtain ⟨rfl, y⟩ := y
    obtain ⟨d, hd, rd⟩ := q.getV (y xs sq)
    exact ⟨d, hd, .refl, w, rd⟩
theorem src_tup {v : Val} {S0 : Sto} {ds : List PyData} {g : List (Nat × List PyData)} {a : Addr} (h : seqOf S0 v = some (true, ds, g)) : SrcW K (Itt K a) ⟨ds, g⟩ (fun A H => Rv K A H (.ref a) v) where
  mono := fun A H A' H' e r => r.kx e
  goes := fun i A S H hi w r gk => by
    obtain ⟨b, xs, eb, q, sq⟩ := seq_stand h w r gk
    cases eb
    obtain ⟨y, hy, _⟩ := q.get (List.getElem?_eq_getElem hi)
    exact ⟨xs, y, sq, hy⟩
  stops := fun A S H w r gk => by
    obtain ⟨b, xs, eb, q, sq⟩ := seq_stand h w r gk
    cases eb
    exact ⟨xs, sq, Nat.le_of_eq q.length⟩
  yields := fun i A S H x H' hi w r gk y => by
    obtain ⟨b, xs, eb, q, sq⟩ := seq_stand h w r gk
    cases eb
    obtain ⟨rfl, y⟩ := y
    obtain ⟨d, hd, rd⟩ := q.getV (y xs sq)
    exact ⟨d, hd, .refl, w, rd⟩
def iSeq (f : Sx) : SI := fun ρ S => (f ρ S).bind fun v S1 => match seqOf S1 v.th with
  | some (_, ds, g) => .ok ⟨ds, g⟩ S1
  | none => .no
theorem one_fp {pins : List (Addr × Obj)} {s : Shared} (I : Inv X pins σ H s) : ∀ b ∈ [s.heap.objs.size], FpOk X pins H b := fun b hb => by
  rw [List.mem_singleton.mp hb]
  exact I.fpOk (Nat.le_refl _) (I.hok.fresh (Nat.le_refl _))
theorem iS {tg l : Expr} {f : Sx} (hl : PE X l (tE X.K f)) : PI X tg l (tI X.K (iSeq f)) := ⟨fun pins s σ H R I h => by
  obtain ⟨A, S, ρ, w, env, p⟩ := h
  refine thn (hl.run pins s σ H (fun x H1 => ∃ a S1 v t ds g, x = .ref a ∧ Wf X.K A S1 H1 ∧ Rv X.K A H1 (.ref a) v ∧ seqOf S1 v = some (t, ds, g) ∧ ∀ J B, SrcW X.K J ⟨ds, g⟩ B → B A H1 → R J H1) I ⟨A, S, ρ, w, env, ?_⟩) fun v s1 ⟨x, H1, I1, r1, a, S1, u, t, ds, g, ex, w1, ru, hq, q⟩ => ?_
  · refine Post.seq (P := PostI X.K A H R) p (fun h => h) (fun _ _ h => h) fun v S1 x H1 e1 w1 r1 p1 => ?_
    split at p1
    · rename_i t ds g hq
      obtain ⟨a, xs, rfl, _, _⟩ := seq_at hq w1 r1
      exact ⟨a, S1, v.th, t, ds, g, rfl, w1, r1, hq, fun J B sw b => p1 J B H1 e1 w1 sw b⟩
    · exact p1.elim
  · subst ex
    cases r1
    obtain ⟨b, xs, eb, _, sq⟩ := seq_at hq w1 ru
    cases eb
    cases t with
    | true =>
      obtain ⟨its, rv, ht, hz⟩ := I1.tuple (show SqT X.K H1 a xs from sq)
      refine wpAny_pyIter_tuple (show s1.heap.IsTuple a its.toArray from ht) ⟨s1.heap.objs.size, [s1.heap.objs.size], _, _, H1, rfl, ?_, turn_tuple a _, ⟨_, Heap.get?_push_size _ rfl, rfl, rfl⟩, one_fp I1, q _ _ (src_tup hq) ru⟩
      exact I1.kept (t' := s1.toks) fun b o e => Heap.get?_push_of_some _ e
    | false =>
      obtain ⟨its, rv, pl, hz⟩ := I1.list (show SqL X.K H1 a xs from sq)
      refine wpAny_pyIter_list pl.isList ⟨s1.heap.objs.size, [s1.heap.objs.size], _, _, H1, rfl, ?_, turn_list a _, ⟨_, Heap.get?_push_size _ rfl, rfl, rfl⟩, one_fp I1, q _ _ (src_list hq) ru⟩
      exact I1.kept (t' := s1.toks) fun b o e => Heap.get?_push_of_some _ e⟩

/-! ### .. a range -/
def iota (lo : Int) (n : Nat) : List PyData := (List.range n).map fun (i : Nat) => .int (lo + i)
theorem iota_length (lo : Int) (n : Nat) : (iota lo n).length = n := by simp [iota]
theorem iota_get {lo : Int} {n i : Nat} (h : i < n) : (iota lo n)[i]? = some (.int (lo + i)) := by simp [iota, h]
theorem src_range {lo : Int} {n : Nat} : SrcW K (Itr lo n) ⟨iota lo n, []⟩ (fun _ _ => True) where
  mono := fun _ _ _ _ _ _ => trivial
  goes := fun i A S H hi w _ _ => by rw [iota_length] at hi; exact hi
  stops := fun A S H w _ _ => by rw [iota_length]; exact Nat.le_refl _
  yields := fun i A S H x H' hi w _ _ y => by
    obtain ⟨rfl, rfl⟩ := y
    rw [iota_length] at hi
    exact ⟨_, iota_get hi, .refl, w, .int _⟩
def gRange1 : List Val → Option Src
  | [.d (.int j)] => if -(2 ^ 62) ≤ j ∧ j < 2 ^ 62 then some ⟨iota 0 j.toNat, []⟩ else none
  | _ => none
def gRange2 : List Val → Option Src
  | [.d (.int i), .d (.int j)] => if -(2 ^ 62) ≤ i ∧ i < 2 ^ 62 ∧ -(2 ^ 62) ≤ j ∧ j < 2 ^ 62 then some ⟨iota i (j - i).toNat, []⟩ else none
  | _ => none
def iBy (g : List Val → Option Src) (f : SA) : SI := fun ρ S => (f ρ S).bind fun vs S1 => match g vs with
  | some s => .ok s S1
  | none => .no
theorem iR1 {tg e : Expr} {f : SA} {p : Pos} (hg : Gl X "range") (hm : X.mg "range" = none) (ha : PA X [e] (tAr X.K f)) (hs : starEach [e] X.env = [(false, eval e X.env)] := by rfl) : PI X tg (.Call (.Name "range" p) [e] [] pos) (tI X.K (iBy gRange1 f)) :=
  PIi (pi_range1 hg hm ha hs) fun σ H R ⟨A, S, ρ, w, env, p⟩ => ⟨A, S, ρ, w, env, PostA.seq (P := PostI X.K A H R) p (fun h => h) (fun _ _ h => h) fun vs S1 xs H1 e1 w1 r1 p1 => by
    split at p1
    · rename_i s hs
      unfold gRange1 at hs
      split at hs
      · split at hs
        · rename_i c
          cases hs
          cases r1 with | cons q r1 => cases r1; cases q; exact ⟨_, rfl, c.1, c.2, p1 _ _ H1 e1 w1 src_range trivial⟩
        · cases hs
      · cases hs
    · exact p1.elim⟩
theorem iR2 {tg e e2 : Expr} {f : SA} {p : Pos} (hg : Gl X "range") (hm : X.mg "range" = none) (ha : PA X [e, e2] (tAr X.K f)) (hs : starEach [e, e2] X.env = [(false, eval e X.env), (false, eval e2 X.env)] := by rfl) (hs2 : starEach [e2] X.env = [(false, eval e2 X.env)] := by rfl) :
    PI X tg (.Call (.Name "range" p) [e, e2] [] pos) (tI X.K (iBy gRange2 f)) :=
  PIi (pi_range2 hg hm ha hs hs2) fun σ H R ⟨A, S, ρ, w, env, p⟩ => ⟨A, S, ρ, w, env, PostA.seq (P := PostI X.K A H R) p (fun h => h) (fun _ _ h => h) fun vs S1 xs H1 e1 w1 r1 p1 => by
    split at p1
    · rename_i s hs
      unfold gRange2 at hs
      split at hs
      · split at hs
        · rename_i c
          cases hs
          cases r1 with | cons q r1 => cases r1 with | cons q2 r1 => cases r1; cases q; cases q2; exact ⟨_, _, rfl, c, p1 _ _ H1 e1 w1 src_range trivial⟩
        · cases hs
      · cases hs
    · exact p1.elim⟩

/-! ### defs -/
def out (n : Nat) (S : Sto) : Val → Res Val
  | .c j => if j < n then .ok (.c j) (S.take n) else match S[j]? with
    | some k => .ok (.f k) (S.take n)
    | none => .no
  | v => .ok v (S.take n)
def mkFn (np N : Nat) (body : Ss) : Fn := fun vs S => if vs.length = np then (body (vs.map some ++ List.replicate (N - np) none) S).bind fun w S1 => match w with
    | .nx _ => .ok (.d .none) (S1.take S.length)
    | .rt v => out S.length S1 v
    | _ => .no
  else .no
theorem fn_ok {P : Program} {w : World} {mg : Str → Option Value} {base : Heap} {x qual : Str} {st : Stmt} {f : Addr} {fd : FuncData} {N ps : List Str} {k np : Nat} {body : Ss} (F : Fun K x qual st f fd) (S : FnScope N ps (defScope st)) (hnp : ps.length = np)
    (h : ∀ (cdv : Value) (A : Around) (outer : List PySem.Env) (s : Shared) (H : Hp) (E : XK), Room k (A.deeper (envOfC qual (defScope st) s.heap.objs.size f cdv)) → A.guards = some [] → PSs (cxOf CX0 P w K mg base N qual (defScope st) f cdv A outer s H E).nox (defBody st) (tS K body)) :
    FnG P w K mg base (k + 1) f fd ps (spF K (mkFn np N.length body)) := by
  refine fnG_of F S (fun xs H Q E h => ?_) (fun cdv A outer s H xs Q E hr gd hp => ⟨_, h cdv A outer s H E hr gd, ?_⟩)
  · obtain ⟨A, S, vs, _, r, p⟩ := h
    unfold mkFn at p
    split at p
    · rename_i hl
      rw [Paired.length r, hl, hnp]
    · exact p.elim
  · obtain ⟨A, St, vs, w, r, p⟩ := hp
    unfold mkFn at p
    split at p
    case isFalse => exact p.elim
    rename_i hl
    have hxl : xs.length = np := (Paired.length r).trans hl
    show tS K body _ (L2.start N xs) H
    refine ⟨A, St, vs.map some ++ List.replicate (N.length - np) none, w, ?_, ?_⟩
    · refine ⟨by simp [L2.start, hxl, hl], fun i v hi => ?_⟩
      by_cases c : i < vs.length
      · rw [List.getElem?_append_left (by rw [List.length_map]; exact c), List.getElem?_map, List.getElem?_eq_getElem c] at hi
        simp at hi
        subst hi
        have z : ∀ {xs : List V} {vs : List Val} {i : Nat} (c : i < vs.length), RvL K A H xs vs → ∃ x, xs[i]? = some x ∧ Rv K A H x vs[i] := by
          intro xs vs i c r
          induction r generalizing i with
          | nil => simp at c
          | cons h t ih =>
            cases i with
            | zero => exact ⟨_, rfl, h⟩
            | succ i => exact ih (i := i) (by simpa using c)
        obtain ⟨y, h1, h2⟩ := z c r
        refine ⟨y, ?_, h2⟩
        unfold L2.start
        rw [List.getElem?_append_left (by rw [List.length_map, hxl, ← hl]; exact c), List.getElem?_map, h1]; rfl
      · rw [List.getElem?_append_right (by rw [List.length_map]; omega)] at hi
        have := List.mem_of_getElem? hi
        simp at this
    · show PostS K A H { nx := fun _ H' => Q .non H', rt := Q } (body (vs.map some ++ List.replicate (N.length - np) none) St)
      generalize hr : body (vs.map some ++ List.replicate (N.length - np) none) St = r at p ⊢
      cases r with
      | no => exact p
      | exc e S1 => exact p
      | ok v S1 =>
        have hsl : ∀ {A' H'}, Ext A H A' H' → Wf K A' S1 H' → Wf K A (S1.take St.length) H' := fun e w1 => by
          rw [← w.len]; exact w1.less e
        cases v with
        | nx ρ1 => exact fun A' σ' H' e w1 _ => p .non H' (Ext.less (B := []) e) (hsl e w1) .non
        | bk ρ1 => exact p.elim
        | ct ρ1 => exact p.elim
        | rt v =>
          have p : Post K A H Q (out St.length S1 v) := p
          have lessV : ∀ {A' : Wd} {H' : Hp}, Ext A H A' H' → ∀ b, b ∈ A.V → b ∈ A'.V := fun {A' H'} e b m => by
            rw [Wd.mem] at m ⊢
            obtain ⟨B, h1⟩ := e.pre
            rw [e.pr, h1]
            exact m.imp id fun m => List.mem_append_left _ m
          have lessRp : ∀ {A' : Wd} {H' : Hp} {v : V} {d : PyData}, Ext A H A' H' → Rp K A'.V H' v d → Rp K A.V H' v d := fun {A' H' v d} e r => r.mono (kp_less (lessV e))
          cases v with
          | d x => exact fun A' v H' e w1 r => p v H' (Ext.less (B := []) e) (hsl e w1) (lessRp e r)
          | z ds =>
            intro A' v H' e w1 r
            obtain ⟨a, ys, rfl, h1, t1⟩ := r
            exact p _ H' (Ext.less (B := []) e) (hsl e w1) ⟨a, ys, rfl, h1.imp (fun q => ⟨q.1, fun m => q.2 (lessV e a m)⟩) id, t1.mono (kp_less (lessV e))⟩
          | f k =>
            intro A' a H' e w1 hn
            obtain ⟨w2, c, na⟩ := w1.drop1
            have e2 : Ext A H (A'.push a) H' := by
              refine ⟨e.pr, ?_, fun b m => ?_, e.keep⟩
              · obtain ⟨B, h1⟩ := e.pre
                exact ⟨B ++ [a], by show A'.A ++ [a] = _; rw [h1, List.append_assoc]⟩
              · rcases List.mem_append.mp m with m | m
                · exact e.new b m
                · rw [List.mem_singleton.mp m]; exact .inr hn
            have hp := w1.pick (j := A'.A.length) (a := a) (k := k) e2 (by obtain ⟨B, h1⟩ := e.pre; rw [h1]; simp) (by simp [Wd.push]) (by rw [w2.len]; simp)
            refine p a H' (Ext.less (B := []) e) ?_ hn
            have q := hp.1
            have hle : A.A.length ≤ S1.length := by rw [← w2.len]; obtain ⟨B, h1⟩ := e.pre; rw [h1]; simp
            rw [List.take_append_of_le_length hle, w.len] at q
            exact q
          | c j =>
            intro A' a H' e w1 hj
            have p : Post K A H Q (if j < St.length then .ok (.c j) (S1.take St.length) else match S1[j]? with
              | some k => .ok (.f k) (S1.take St.length)
              | none => .no) := p
            by_cases hjn : j < St.length
            · rw [if_pos hjn] at p
              refine p a H' (Ext.less (B := []) e) (hsl e w1) ?_
              obtain ⟨B, h1⟩ := e.pre
              rw [h1, List.getElem?_append_left (by rw [w.len]; exact hjn)] at hj
              exact hj
            · rw [if_neg hjn] at p
              split at p
              · rename_i k hk
                have hp := w1.pick (j := j) (a := a) (k := k) e (by rw [w.len]; omega) hj hk
                have q := hp.1
                rw [w.len] at q
                exact p a H' (Ext.less (B := []) e) q hp.2
              · exact p.elim
end
end MV
set_option Elab.async false
set_option linter.all false
set_option maxRecDepth 100000
/-! Readings by mirrors: operators, subscripts, slices. -/
namespace MV
open PySem PySem.Spec PyProof.Rows L2
section
variable {X : Cx} {K : Frg} {a b : Expr} {fa fb : Sx} {pos : Pos} {A A' A2 : Wd} {H H' H2 : Hp} {S S' : Sto} {Q : VK} {ρ : Envi} {σ : L2.St} {D : Ends}
/-! ### views -/
def asL (S : Sto) : Val → Option (List PyData)
  | .d (.list ds) => some ds
  | .c n => match S[n]? with
    | some (.lst ds) => some ds
    | _ => none
  | _ => none
theorem asL_ok {x : V} {v : Val} {ds : List PyData} (w : Wf K A S H) (r : Rv K A H x v) (h : asL S v = some ds) : ∃ a xs, x = .ref a ∧ H a = some (.lst xs) ∧ RpL K A.V H xs ds := by
  cases v with
  | f k => cases h
  | z es => cases h
  | d y =>
    cases y with
    | list es =>
      cases h
      have r' : Rp K A.V H x (.list ds) := r
      cases r' with | lst l q => exact ⟨_, _, rfl, l.1, q⟩
    | _ => cases h
  | c n =>
    have h : (match S[n]? with
      | some (.lst es) => some es
      | _ => none) = some ds := h
    split at h
    · rename_i es q
      cases h
      obtain ⟨a, h1, rfl⟩ := r
      obtain ⟨xs, h2, h3⟩ := w.ok n a _ h1 q
      exact ⟨a, xs, rfl, h2, h3⟩
    · cases h
/-- as a datum -/
def asD (S : Sto) : Val → Option PyData
  | .d x => some x
  | .z ds => some (.list ds)
  | .c n => match S[n]? with
    | some (.lst ds) => some (.list ds)
    | _ => none
  | .f _ => none
theorem asD_dp {x : V} {v : Val} {y : PyData} (w : Wf K A S H) (r : Rv K A H x v) (h : asD S v = some y) (c : y.canLay0 = true) : Dp K H x y := by
  cases v with
  | f k => cases h
  | d z => cases h; exact Rp.dp _ _ c r
  | z ds =>
    cases h
    obtain ⟨a, xs, rfl, h1, t⟩ := r
    exact .lst (h1.elim (fun z => .inl z.1) klst_seq) (RpL.dp _ _ (by simpa [PyData.canLay0] using c) t)
  | c n =>
    have h : (match S[n]? with
      | some (.lst es) => some (.list es)
      | _ => none) = some y := h
    split at h
    · rename_i es q
      cases h
      obtain ⟨a, h1, rfl⟩ := r
      obtain ⟨xs, h2, h3⟩ := w.ok n a _ h1 q
      exact .lst (.inl (.inl h2)) (RpL.dp _ _ (by simpa [PyData.canLay0] using c) h3)
    · cases h

/-! ### whole numbers -/
def gInt (C : Int → Int → Bool) (g : Int → Int → PyData) : Val → Val → Sto → Res Val
  | .d (.int i), .d (.int j), S => if C i j = true then .ok (.d (g i j)) S else .no
  | _, _, _ => .no
theorem Rp.int_inv {L : List Addr} {x : V} {i : Int} (r : Rp K L H x (.int i)) : x = .int i := by cases r; rfl
theorem Rp.str_inv {L : List Addr} {x : V} {i : Str} (r : Rp K L H x (.str i)) : x = .str i := by cases r; rfl
theorem Rp.bl_inv {L : List Addr} {x : V} {i : Bool} (r : Rp K L H x (.bool i)) : x = .bl i := by cases r; rfl
theorem oInt {f : Value → Value → Sem Value} {C : Int → Int → Prop} {Cb : Int → Int → Bool} {g : Int → Int → V} {gd : Int → Int → PyData} (h : OpR X f (rI C g)) (hC : ∀ i j, Cb i j = true → C i j) (hg : ∀ i j L H, Rp X.K L H (g i j) (gd i j)) : ORul X f (gInt Cb gd) := by
  intro pins s σ A S H x y u u' v w Q I wf rv rw ru ru' p
  unfold gInt at p
  split at p
  · split at p
    · rename_i c
      exact h pins s σ H x y u u' Q I ru ru' ⟨_, _, Rp.int_inv rv, Rp.int_inv rw, hC _ _ c, p _ H .refl wf (hg _ _ _ _)⟩
    · exact p.elim
  · exact p.elim
theorem oInt0 {f : Value → Value → Sem Value} {g : Int → Int → V} {gd : Int → Int → PyData} (h : OpR X f (rI0 g)) (hg : ∀ i j L H, Rp X.K L H (g i j) (gd i j)) : ORul X f (gInt (fun _ _ => true) gd) := by
  intro pins s σ A S H x y u u' v w Q I wf rv rw ru ru' p
  unfold gInt at p
  split at p
  · exact h pins s σ H x y u u' Q I ru ru' ⟨_, _, Rp.int_inv rv, Rp.int_inv rw, p _ H .refl wf (hg _ _ _ _)⟩
  · exact p.elim
def gSub := gInt (fun _ _ => true) fun i j => .int (i - j)
theorem oSub : ORul X (binaryOp .Sub) gSub := oInt0 op_sub fun _ _ _ _ => .int _
def gDiv := gInt (fun _ j => decide (0 < j ∧ j.natAbs.log2 < 9000)) fun i j => .int (i / j)
theorem oDiv : ORul X (binaryOp .FloorDiv) gDiv := oInt op_fdivW (fun _ j h => (show 0 < j ∧ j.natAbs.log2 < 9000 from of_decide_eq_true h)) fun _ _ _ _ => .int _
def gMod := gInt (fun _ j => decide (0 < j)) fun i j => .int (i % j)
theorem oMod : ORul X (binaryOp .Mod) gMod := oInt op_mod (fun _ _ h => of_decide_eq_true h) fun _ _ _ _ => .int _
theorem op_powX : OpR X (binaryOp .Pow) (rI (fun i j => 0 ≤ j ∧ (Builtin.Int.intBits i : Int) * j ≤ 2 ^ 27) fun i j => .int (i ^ j.toNat)) := opI fun _ _ _ _ _ _ _ hc q => pow_int hc.1 hc.2 q
def gPow := gInt (fun i j => decide (0 ≤ j ∧ (Builtin.Int.intBits i : Int) * j ≤ 2 ^ 27)) fun i j => .int (i ^ j.toNat)
theorem oPow : ORul X (binaryOp .Pow) gPow := oInt op_powX (fun _ _ h => of_decide_eq_true h) fun _ _ _ _ => .int _
def gShl := gInt (fun i j => decide (0 ≤ j ∧ j ≤ 1000000 ∧ i.natAbs < 2 ^ 64)) fun i j => .int (i * 2 ^ j.toNat)
theorem oShl : ORul X (binaryOp .LShift) gShl := oInt op_shl (fun i j h => (show 0 ≤ j ∧ j ≤ 1000000 ∧ i.natAbs < 2 ^ 64 from of_decide_eq_true h)) fun _ _ _ _ => .int _
def gShr := gInt (fun _ j => decide (0 ≤ j)) fun i j => .int (i / 2 ^ j.toNat)
theorem oShr : ORul X (binaryOp .RShift) gShr := oInt op_shr (fun _ _ h => of_decide_eq_true h) fun _ _ _ _ => .int _
def gAnd := gInt (fun _ _ => true) fun i j => .int (Builtin.bitAnd i j)
theorem oAnd : ORul X (binaryOp .BitAnd) gAnd := oInt0 op_and fun _ _ _ _ => .int _
def gOr := gInt (fun _ _ => true) fun i j => .int (Builtin.bitOr i j)
theorem oOr : ORul X (binaryOp .BitOr) gOr := oInt0 op_or fun _ _ _ _ => .int _
def gXor := gInt (fun _ _ => true) fun i j => .int (Builtin.bitXor i j)
theorem oXor : ORul X (binaryOp .BitXor) gXor := oInt0 op_xor fun _ _ _ _ => .int _
def evUn (g : Int → Int) (f : Sx) : Sx := fun ρ S => (f ρ S).bind fun v S1 => match v with
  | .d (.int i) => .ok (.d (.int (g i))) S1
  | _ => .no
theorem eUn {op : UnaryOp} {g : Int → Int} (h : UnR X (unaryOp op) (rU fun i => .int (g i))) (ha : PE X a (tE X.K fa)) : PE X (.UnaryOp op a pos) (tE X.K (evUn g fa)) := PEi (pe_un h ha) fun σ H Q ⟨A, S, ρ, w, env, p⟩ =>
  at_seq (P := Post X.K A H Q) w env p (fun h => h) (fun _ _ h => h) fun v S1 x H1 e1 w1 r1 p1 => by
    split at p1
    · exact ⟨_, Rp.int_inv r1, p1 _ H1 e1 w1 (.int _)⟩
    · exact p1.elim
theorem eNeg (ha : PE X a (tE X.K fa)) : PE X (.UnaryOp .USub a pos) (tE X.K (evUn (fun i => -i) fa)) := eUn un_neg ha
theorem eInv (ha : PE X a (tE X.K fa)) : PE X (.UnaryOp .Invert a pos) (tE X.K (evUn Builtin.bitNot fa)) := eUn un_inv ha

/-! ### + and * -/
def mulOk (i j : Int) : Bool := decide (((-(2 ^ 64) < i ∧ i < 2 ^ 64) ∨ (-(2 ^ 64) < j ∧ j < 2 ^ 64)) ∨ i.natAbs.log2 + j.natAbs.log2 < 1000000)
def CMulA (i j : Int) : Prop := CMul i j ∨ CMulW i j
theorem op_mulA {X : Cx} : OpR X (binaryOp .Mult) (rI CMulA fun i j => .int (i * j)) := opI fun _ _ _ _ _ _ _ hc q => mul_int q (hc.elim CMul.ok CMulW.ok)
theorem mulOk_ok {i j : Int} (h : mulOk i j = true) : CMulA i j := (of_decide_eq_true h).imp id id
def gMul : Val → Val → Sto → Res Val
  | .d (.int i), .d (.int j), S => if mulOk i j = true then .ok (.d (.int (i * j))) S else .no
  | v, .d (.int k), S => match asL S v with
    | some ds => if -(2 ^ 63) ≤ k ∧ k < 2 ^ 63 ∧ ds.length * k.toNat ≤ sizeLine then .ok (.f (.lst (List.replicate k.toNat ds).flatten)) S else .no
    | none => .no
  | _, _, _ => .no
theorem RpL.rep {L : List Addr} {xs : List V} {ds : List PyData} (r : RpL K L H xs ds) : ∀ k : Nat, RpL K L H (List.replicate k xs).flatten (List.replicate k ds).flatten
  | 0 => .nil
  | k + 1 => by
    rw [List.replicate_succ, List.replicate_succ, List.flatten_cons, List.flatten_cons]
    exact r.append (RpL.rep r k)
theorem Post.fresh {ds : List PyData} {xs : List V} {p : Addr} (h : Post K A H Q (.ok (.f (.lst ds)) S)) (w : Wf K A S H) (hp : H p = none) (r : RpL K A.V H xs ds) : Q (.ref p) (L2.upd H p (.lst xs)) := h.lst .refl w hp r
theorem oMul : ORul X (binaryOp .Mult) gMul := by
  intro pins s σ A S H x y u u' v w Q I wf rv rw ru ru' p
  unfold gMul at p
  split at p
  · split at p
    · rename_i c
      exact op_mulA pins s σ H x y u u' Q I ru ru' ⟨_, _, Rp.int_inv rv, Rp.int_inv rw, mulOk_ok c, p _ H .refl wf (.int _)⟩
    · exact p.elim
  · split at p
    · rename_i ds hds
      split at p
      · rename_i c
        obtain ⟨a, xs, e1, h1, h2⟩ := asL_ok wf rv hds
        refine op_rep pins s σ H x y u u' Q I ru ru' ⟨a, _, xs, e1, Rp.int_inv rw, h1, c.1, c.2.1, by rw [h2.length]; exact c.2.2, fun q hq => ?_⟩
        exact p.fresh wf hq (h2.rep _)
      · exact p.elim
    · exact p.elim
  · exact p.elim
def gAdd : Val → Val → Sto → Res Val
  | .d (.int i), .d (.int j), S => .ok (.d (.int (i + j))) S
  | .d (.str i), .d (.str j), S => if i.length + j.length ≤ sizeLine then .ok (.d (.str (i ++ j))) S else .no
  | .d (.tuple i), .d (.tuple j), S => if i.length + j.length ≤ sizeLine then .ok (.d (.tuple (i ++ j))) S else .no
  | v, w, S => match asL S v, asL S w with
    | some i, some j => if i.length + j.length ≤ sizeLine then .ok (.f (.lst (i ++ j))) S else .no
    | _, _ => .no
theorem oAdd : ORul X (binaryOp .Add) gAdd := by
  intro pins s σ A S H x y u u' v w Q I wf rv rw ru ru' p
  unfold gAdd at p
  split at p
  · exact op_add pins s σ H x y u u' Q I ru ru' ⟨_, _, Rp.int_inv rv, Rp.int_inv rw, p _ H .refl wf (.int _)⟩
  · split at p
    · rename_i c
      exact op_add_str pins s σ H x y u u' Q I ru ru' ⟨_, _, Rp.str_inv rv, Rp.str_inv rw, c, p _ H .refl wf (.str _)⟩
    · exact p.elim
  · split at p
    · rename_i c
      have rv' : Rp X.K A.V H x (.tuple _) := rv
      have rw' : Rp X.K A.V H y (.tuple _) := rw
      cases rv' with | tup l1 q1 => cases rw' with | tup l2 q2 =>
        refine op_catA pins s σ H _ _ u u' Q I ru ru' ⟨_, _, _, _, rfl, rfl, l1.seq, l2.seq, by rw [q1.length, q2.length]; exact c, fun e => ?_, fun e e' => ?_, fun e e' q hq => ?_⟩
        · subst e
          cases q1
          exact p _ H .refl wf rw
        · subst e'
          cases q2
          rw [List.append_nil] at p
          exact p _ H .refl wf rv
        · exact Post.tup p .refl wf hq (q1.append q2)
    · exact p.elim
  · split at p
    · rename_i i j h1 h2
      split at p
      · rename_i c
        obtain ⟨a, xs, e1, g1, r1⟩ := asL_ok wf rv h1
        obtain ⟨b, ys, e2, g2, r2⟩ := asL_ok wf rw h2
        exact op_cat pins s σ H x y u u' Q I ru ru' ⟨a, b, xs, ys, e1, e2, g1, g2, by rw [r1.length, r2.length]; exact c, fun q hq => p.fresh wf hq (r1.append r2)⟩
      · exact p.elim
    · exact p.elim

/-! ### comparisons -/
def gLt := gInt (fun _ _ => true) fun i j => .bool (decide (i < j))
def gLe := gInt (fun _ _ => true) fun i j => .bool (decide (i ≤ j))
def gGt := gInt (fun _ _ => true) fun i j => .bool (decide (j < i))
def gGe := gInt (fun _ _ => true) fun i j => .bool (decide (j ≤ i))
theorem oLt : ORul X (compareOp .Lt) gLt := oInt0 op_lt fun _ _ _ _ => .bl _
theorem oLe : ORul X (compareOp .LtE) gLe := oInt0 op_le fun _ _ _ _ => .bl _
theorem oGt : ORul X (compareOp .Gt) gGt := oInt0 op_gt fun _ _ _ _ => .bl _
theorem oGe : ORul X (compareOp .GtE) gGe := oInt0 op_ge fun _ _ _ _ => .bl _
def gEq : Val → Val → Sto → Res Val
  | .d (.str i), .d (.str j), S => .ok (.d (.bool (decide (i = j)))) S
  | v, w, S => match asD S v, asD S w with
    | some x, some y => if SeqAt.shaped x = true ∧ SeqAt.shaped y = true then .ok (.d (.bool (PyData.eqv x y))) S else .no
    | _, _ => .no
def gNe : Val → Val → Sto → Res Val
  | .d (.str i), .d (.str j), S => .ok (.d (.bool (!decide (i = j)))) S
  | v, w, S => match asD S v, asD S w with
    | some x, some y => if SeqAt.shaped x = true ∧ SeqAt.shaped y = true then .ok (.d (.bool (!PyData.eqv x y))) S else .no
    | _, _ => .no
theorem oEq (hu : X.A.units + 100 < cLine) : ORul X (compareOp .Eq) gEq := by
  intro pins s σ A S H x y u u' v w Q I wf rv rw ru ru' p
  unfold gEq at p
  split at p
  · rename_i i j
    have e1 := Rp.str_inv rv
    have e2 := Rp.str_inv rw
    subst e1 e2
    refine op_eq pins s σ H _ _ u u' Q I ru ru' ⟨rfl, ?_⟩
    have e : decide (V.str i = V.str j) = decide (i = j) := by simp
    rw [e]
    exact p _ H .refl wf (.bl _)
  split at p
  · rename_i d e h1 h2
    split at p
    · rename_i c
      exact op_eqD (by omega) pins s σ H x y u u' Q I ru ru' ⟨d, e, asD_dp wf rv h1 (SeqAt.canLay_of_shaped c.1), asD_dp wf rw h2 (SeqAt.canLay_of_shaped c.2), c.1, c.2, p _ H .refl wf (.bl _)⟩
    · exact p.elim
  · exact p.elim
theorem oNe (hu : X.A.units + 100 < cLine) : ORul X (compareOp .NotEq) gNe := by
  intro pins s σ A S H x y u u' v w Q I wf rv rw ru ru' p
  unfold gNe at p
  split at p
  · rename_i i j
    have e1 := Rp.str_inv rv
    have e2 := Rp.str_inv rw
    subst e1 e2
    refine op_ne pins s σ H _ _ u u' Q I ru ru' ⟨rfl, ?_⟩
    have e : decide (V.str i = V.str j) = decide (i = j) := by simp
    rw [e]
    exact p _ H .refl wf (.bl _)
  split at p
  · rename_i d e h1 h2
    split at p
    · rename_i c
      exact op_neD (by omega) pins s σ H x y u u' Q I ru ru' ⟨d, e, asD_dp wf rv h1 (SeqAt.canLay_of_shaped c.1), asD_dp wf rw h2 (SeqAt.canLay_of_shaped c.2), c.1, c.2, p _ H .refl wf (.bl _)⟩
    · exact p.elim
  · exact p.elim
def kOf : PyData → Option Key
  | .int i => some (.inl i)
  | .str x => some (.inr x)
  | _ => none
/-- a dict's entry -/
def look (ps : List (PyData × PyData)) (k : Key) : Option PyData := (ps.find? fun p => decide (kOf p.1 = some k)).map (·.2)
theorem kOf_kD (k : Key) : kOf (kD k) = some k := by cases k <;> rfl
theorem look_ok {L : List Addr} {k : Key} : ∀ {kvs : List (Key × V)} {ps : List (PyData × PyData)}, RpD K L H kvs ps → (look ps k = none ∧ valV kvs k = none) ∨ ∃ d v, look ps k = some d ∧ valV kvs k = some v ∧ Rp K L H v d
  | _, _, .nil => .inl ⟨rfl, rfl⟩
  | _, _, .cons (k := j) (v := v) (kvs := kvs) (d := d) (ps := ps) r t => by
    by_cases e : j = k
    · subst e
      exact .inr ⟨d, v, by simp [look, kOf_kD], valV_pos rfl, r⟩
    · have h1 : look ((kD j, d) :: ps) k = look ps k := by simp [look, kOf_kD, e]
      have h2 : valV ((j, v) :: kvs) k = valV kvs k := valV_neg e
      rw [h1, h2]
      exact look_ok t
/-- as a dict -/
def asM (S : Sto) : Val → Option (List (PyData × PyData))
  | .d (.dict ps) => some ps
  | .c n => match S[n]? with
    | some (.dic ps) => some ps
    | _ => none
  | _ => none
theorem asM_ok {x : V} {v : Val} {ps : List (PyData × PyData)} (w : Wf K A S H) (r : Rv K A H x v) (h : asM S v = some ps) : ∃ a kvs, x = .ref a ∧ H a = some (.dK kvs) ∧ RpD K A.V H kvs ps := by
  cases v with
  | f k => cases h
  | z es => cases h
  | d y =>
    cases y with
    | dict es =>
      cases h
      have r' : Rp K A.V H x (.dict ps) := r
      cases r' with | dic l n q => exact ⟨_, _, rfl, l, q⟩
    | _ => cases h
  | c n =>
    have h : (match S[n]? with
      | some (.dic es) => some es
      | _ => none) = some ps := h
    split at h
    · rename_i es q
      cases h
      obtain ⟨a, h1, rfl⟩ := r
      obtain ⟨xs, h2, h3⟩ := w.ok n a _ h1 q
      exact ⟨a, xs, rfl, h2, h3⟩
    · cases h
def rowOf (S : Sto) : Val → Option (List PyData)
  | .d (.tuple ds) => some ds
  | v => match asD S v with
    | some (.list ds) => some ds
    | _ => none
def isIn (S : Sto) (v w : Val) : Option Bool := match asM S w with
  | some ps => match v with
    | .d y => match kOf y with
      | some k => some (look ps k).isSome
      | none => none
    | _ => none
  | none => match v, w with
    | .d (.str i), .d (.str j) => some (!(Builtin.Str.occurrences j i 0 j.length 1).isEmpty)
    | v, w => match asD S v, rowOf S w with
      | some d, some ds => if SeqAt.shaped d = true ∧ SeqAt.shaped (.list ds) = true then some (ds.any fun z => PyData.eqv z d) else none
      | _, _ => none
def gIn : Val → Val → Sto → Res Val := fun v w S => match isIn S v w with
  | some b => .ok (.d (.bool b)) S
  | none => .no
def gNotIn : Val → Val → Sto → Res Val := fun v w S => match isIn S v w with
  | some b => .ok (.d (.bool (!b))) S
  | none => .no
theorem shaped_tl {ds : List PyData} (h : SeqAt.shaped (.list ds) = true) : SeqAt.shaped (.tuple ds) = true := by
  unfold SeqAt.shaped at h ⊢
  simpa [PyData.canLay0, PyData.depth] using h
theorem Rp.key {L : List Addr} {x : V} {y : PyData} {k : Key} (r : Rp K L H x y) (h : kOf y = some k) : x = kV k := by
  cases y with
  | int i => cases h; exact Rp.int_inv r
  | str i => cases h; exact Rp.str_inv r
  | _ => cases h
theorem in_core (hu : X.A.units + 65 < cLine) {pins : List (Addr × Obj)} {s : Shared} {x y : V} {u u' : Value} {v w : Val} {c : Bool} {Q' : Value → Shared → Prop} (I : Inv X pins σ H s) (wf : Wf X.K A S H) (rv : Rv X.K A H x v) (rw : Rv X.K A H y w) (ru : RelV x u) (ru' : RelV y u') (h : isIn S v w = some c)
    (neg : Bool) (q : ∀ s', Inv X pins σ H s' → Q' (.bool (if neg then !c else c)) s') : wpAny (model X.prog X.w) X.A (compareOp (if neg then .NotIn else .In) u u') Q' X.xe s := by
  unfold isIn at h
  split at h
  · rename_i ps hps
    split at h
    · rename_i d
      split at h
      · rename_i k hk
        cases h
        obtain ⟨a, kvs, e1, g1, r1⟩ := asM_ok wf rw hps
        subst e1
        cases ru'
        have e2 := Rp.key rv hk
        subst e2
        have e3 : (valV kvs k).isSome = (look ps k).isSome := by
          rcases look_ok (k := k) r1 with ⟨h1, h2⟩ | ⟨d, v, h1, h2, _⟩ <;> rw [h1, h2] <;> rfl
        have hu1 : X.A.units + 1 < cLine := by omega
        cases neg with
        | true =>
          refine d_notIn hu1 I (DGet.k g1) ru fun s' I' => ?_
          rw [e3]; exact q s' I'
        | false =>
          refine d_in hu1 I (DGet.k g1) ru fun s' I' => ?_
          rw [e3]; exact q s' I'
      · cases h
    · cases h
  · split at h
    · cases h
      have e1 := Rp.str_inv rv
      have e2 := Rp.str_inv rw
      cases neg with
      | true => exact thn (op_notin_str pins s σ H x y u u' (fun z H' => H' = H ∧ z = .bl _) I ru ru' ⟨_, _, e1, e2, rfl, rfl⟩) fun z s' ⟨zv, H', I', rz, eh, ez⟩ => by subst eh ez; cases rz; exact q s' I'
      | false => exact thn (op_in_str pins s σ H x y u u' (fun z H' => H' = H ∧ z = .bl _) I ru ru' ⟨_, _, e1, e2, rfl, rfl⟩) fun z s' ⟨zv, H', I', rz, eh, ez⟩ => by subst eh ez; cases rz; exact q s' I'
    · split at h
      · rename_i d ds hd hds
        split at h
        · rename_i c
          cases h
          obtain ⟨as, r1⟩ := Dp.reads I d x u (asD_dp wf rv hd (SeqAt.canLay_of_shaped c.1)) ru
          have st := shaped_tl c.2
          have key : (∃ as, Reads s.heap u' (.tuple ds) as) ∨ ∃ as, Reads s.heap u' (.list ds) as := by
            unfold rowOf at hds
            split at hds
            · cases hds
              exact .inl (Dp.reads I (.tuple ds) y u' (Rp.dp _ _ (SeqAt.canLay_of_shaped st) rw) ru')
            · split at hds
              · rename_i es he
                cases hds
                exact .inr (Dp.reads I (.list ds) y u' (asD_dp wf rw he (SeqAt.canLay_of_shaped c.2)) ru')
              · cases hds
          rcases key with ⟨bs, r2⟩ | ⟨bs, r2⟩
          · cases neg with
            | true => exact SeqAt.notIn_tuple_reads r2 r1 (SeqAt.canLay_of_shaped st) (SeqAt.canLay_of_shaped c.1) (room_in_shaped c.1 hu) (q s I)
            | false => exact SeqAt.in_tuple_reads r2 r1 (SeqAt.canLay_of_shaped st) (SeqAt.canLay_of_shaped c.1) (room_in_shaped c.1 hu) (q s I)
          · cases neg with
            | true => exact SeqAt.notIn_list_reads r2 r1 (SeqAt.canLay_of_shaped c.2) (SeqAt.canLay_of_shaped c.1) (room_in_shaped c.1 hu) (q s I)
            | false => exact SeqAt.in_list_reads r2 r1 (SeqAt.canLay_of_shaped c.2) (SeqAt.canLay_of_shaped c.1) (room_in_shaped c.1 hu) (q s I)
        · cases h
      · cases h
theorem oIn (hu : X.A.units + 100 < cLine) : ORul X (compareOp .In) gIn := by
  intro pins s σ A S H x y u u' v w Q I wf rv rw ru ru' p
  unfold gIn at p
  split at p
  · rename_i b hb
    exact in_core (by omega) I wf rv rw ru ru' hb false fun s' I' => ⟨.bl b, H, I', rfl, p _ H .refl wf (.bl _)⟩
  · exact p.elim
theorem oNotIn (hu : X.A.units + 100 < cLine) : ORul X (compareOp .NotIn) gNotIn := by
  intro pins s σ A S H x y u u' v w Q I wf rv rw ru ru' p
  unfold gNotIn at p
  split at p
  · rename_i b hb
    exact in_core (by omega) I wf rv rw ru ru' hb true fun s' I' => ⟨.bl (!b), H, I', rfl, p _ H .refl wf (.bl _)⟩
  · exact p.elim
def isNone : Val → Bool
  | .d .none => true
  | _ => false
theorem isNone_ok {x : V} {v : Val} (r : Rv K A H x v) : decide (x = V.non) = isNone v := by
  cases v with
  | c n => obtain ⟨a, _, rfl⟩ := r; rfl
  | f k => exact r.elim
  | z ds => obtain ⟨a, xs, rfl, _⟩ := r; rfl
  | d y =>
    have r' : Rp K A.V H x y := r
    cases r' <;> rfl
def gIsN : Val → Val → Sto → Res Val
  | v, .d .none, S => .ok (.d (.bool (isNone v))) S
  | _, _, _ => .no
def gNotN : Val → Val → Sto → Res Val
  | v, .d .none, S => .ok (.d (.bool (!isNone v))) S
  | _, _, _ => .no
theorem oIsN : ORul X (compareOp .Is) gIsN := by
  intro pins s σ A S H x y u u' v w Q I wf rv rw ru ru' p
  unfold gIsN at p
  split at p
  · have e : y = .non := by
      have r' : Rp X.K A.V H y .none := rw
      cases r'; rfl
    exact op_isN pins s σ H x y u u' Q I ru ru' ⟨e, by rw [isNone_ok rv]; exact p _ H .refl wf (.bl _)⟩
  · exact p.elim
theorem oNotN : ORul X (compareOp .IsNot) gNotN := by
  intro pins s σ A S H x y u u' v w Q I wf rv rw ru ru' p
  unfold gNotN at p
  split at p
  · have e : y = .non := by
      have r' : Rp X.K A.V H y .none := rw
      cases r'; rfl
    exact op_notN pins s σ H x y u u' Q I ru ru' ⟨e, by rw [isNone_ok rv]; exact p _ H .refl wf (.bl _)⟩
  · exact p.elim
end
end MV
set_option Elab.async false
set_option linter.all false
set_option maxRecDepth 100000
/-! Readings by mirrors: subscripts, slices, stores, methods, built-ins. -/
namespace MV
open PySem PySem.Spec PyProof.Rows L2
section
variable {X : Cx} {K : Frg} {a b : Expr} {fa fb : Sx} {pos : Pos} {A A' A2 : Wd} {H H' H2 : Hp} {S S' : Sto} {Q : VK} {ρ : Envi} {σ : L2.St} {D : Ends}
/-! ### x[i] -/
def gIxS (v : Val) (i : Int) (S : Sto) : Res Val := match seqOf S v with
  | some q => match atI q.2.1 i with
    | some d => .ok (.d d) S
    | none => .no
  | none => .no
def gIx : Val → Val → Sto → Res Val := fun v w S => match v, w with
  | .d (.str z), .d (.int i) => if z.length ≤ sizeLine then (match atI z.cps.toList i with
    | some c => .ok (.d (.str ⟨#[c]⟩)) S
    | none => .no) else .no
  | v, w => match asM S v with
    | some ps => match w with
      | .d y => match kOf y with
        | some k => match look ps k with
          | some d => .ok (.d d) S
          | none => .no
        | none => .no
      | _ => .no
    | none => match w with
      | .d (.int i) => gIxS v i S
      | _ => .no
theorem RpL.atI {L : List Addr} {xs : List V} {ds : List PyData} {i : Int} {d : PyData} (r : RpL K L H xs ds) (h : L2.atI ds i = some d) : ∃ v, L2.atI xs i = some v ∧ Rp K L H v d := by
  unfold L2.atI at h ⊢
  rw [r.length]
  cases q : ixN ds.length i with
  | none => rw [q] at h; cases h
  | some j =>
    rw [q] at h
    exact r.get h
theorem xIx (hu : X.A.units + 1 < cLine) : IxR X (rO X.K gIx) := by
  intro value slice pins s σ H x y u u' Q I ru ru' ⟨A, S, v, w, wf, rv, rw, p⟩ hs
  unfold gIx at p
  split at p
  · split at p
    · rename_i c
      split at p
      · rename_i z hz
        exact ix_str value slice pins s σ H x y u u' Q I ru ru' ⟨_, _, _, Rp.str_inv rv, Rp.int_inv rw, c, hz, p _ H .refl wf (.str _)⟩ hs
      · exact p.elim
    · exact p.elim
  · split at p
    · rename_i ps hps
      split at p
      · split at p
        · rename_i k hk
          split at p
          · rename_i d hd
            obtain ⟨a, kvs, e1, g1, r1⟩ := asM_ok wf rv hps
            subst e1
            cases ru
            have e2 := Rp.key rw hk
            subst e2
            rcases look_ok (k := k) r1 with ⟨h1, h2⟩ | ⟨d', z, h1, h2, h3⟩
            · rw [hd] at h1; cases h1
            · rw [hd] at h1
              cases h1
              have g : DGet H a (kV k) (some z) := by
                have g := DGet.k (k := k) g1
                rwa [h2] at g
              exact tail_any (dict_typeIs I g) slot_dict_getitem.lookup (d_getItem hu I g ru' fun w' s' I' r' => ⟨z, H, I', r', p z H .refl wf h3⟩) hs
          · exact p.elim
        · exact p.elim
      · exact p.elim
    · split at p
      · rename_i i _
        unfold gIxS at p
        split at p
        · rename_i q hq
          split at p
          · rename_i d hd
            obtain ⟨a, xs, e1, r1, sq⟩ := seq_at (t := q.1) (ds := q.2.1) (g := q.2.2) hq wf rv
            obtain ⟨z, hz, rz⟩ := r1.atI hd
            cases ht : q.1 with
            | true =>
              rw [ht] at sq
              exact ix_tup value slice pins s σ H x y u u' Q I ru ru' ⟨a, xs, _, z, e1, Rp.int_inv rw, sq, hz, p z H .refl wf rz⟩ hs
            | false =>
              rw [ht] at sq
              exact ix_list value slice pins s σ H x y u u' Q I ru ru' ⟨a, xs, _, z, e1, Rp.int_inv rw, sq, hz, p z H .refl wf rz⟩ hs
          · exact p.elim
        · exact p.elim
      · exact p.elim
theorem eIx (hu : X.A.units + 100 < cLine) (ha : PE X a (tE X.K fa)) (hb : PE X b (tE X.K fb)) (hs : PlainIx b := by exact fun _ _ => rfl) : PE X (.Subscript a b pos) (tE X.K (ev2 gIx fa fb)) := PEi (pe_ix (xIx (by omega)) ha hb hs) fun _ _ _ => ev2_ok

/-! ### x[i:j] -/
abbrev SO := Envi → Sto → Res (Option Int)
def PostO (K : Frg) (A : Wd) (H : Hp) (Q : Option Int → Hp → Prop) : Res (Option Int) → Prop
  | .ok b S => ∀ H', Ext A H A H' → Wf K A S H' → Q b H'
  | .exc _ _ => False
  | .no => False
def tOp' (K : Frg) (f : SO) : TO := fun σ H Q => At K σ H fun A ρ S => PostO K A H Q (f ρ S)
theorem PostO.seq {β : Type} {P : Res β → Prop} {Q : Option Int → Hp → Prop} {r : Res (Option Int)} {g : Option Int → Sto → Res β} (h : P (r.bind g)) (h0 : P .no → False) (h1 : ∀ e S, P (.exc e S) → False)
    (k : ∀ v S1 H1, Ext A H A H1 → Wf K A S1 H1 → P (g v S1) → Q v H1) : PostO K A H Q r := by
  cases r with
  | ok v S1 => exact fun H1 e w => k v S1 H1 e w h
  | exc e S => exact (h1 _ _ h).elim
  | no => exact (h0 h).elim
def oNo : SO := fun _ S => .ok none S
def oYes (f : Sx) : SO := fun ρ S => (f ρ S).bind fun v S1 => match v with
  | .d (.int i) => .ok (some i) S1
  | _ => .no
theorem POi {e : Option Expr} {t t' : TO} (h : PO X e t) (i : ∀ σ H Q, t' σ H Q → t σ H Q) : PO X e t' := ⟨fun pins s σ H Q I q => h.run pins s σ H Q I (i σ H Q q)⟩
theorem poN : PO X none (tOp' X.K oNo) := POi po_none fun σ H Q ⟨A, S, ρ, w, env, p⟩ => p H .refl w
theorem poS (h : PE X a (tE X.K fa)) : PO X (some a) (tOp' X.K (oYes fa)) := POi (po_some h) fun σ H Q ⟨A, S, ρ, w, env, p⟩ =>
  at_seq (P := PostO X.K A H Q) w env p (fun h => h) (fun _ _ h => h) fun v S1 x H1 e1 w1 r1 p1 => by
    split at p1
    · exact ⟨_, Rp.int_inv r1, p1 H1 e1 w1⟩
    · exact p1.elim
def cutD (ds : List PyData) (lo hi : Option Int) : List PyData := (ds.drop (HT.sIx ds.length 0 lo)).take (HT.sIx ds.length ds.length hi - HT.sIx ds.length 0 lo)
theorem RpL.cut {L : List Addr} {xs : List V} {ds : List PyData} (r : RpL K L H xs ds) (lo hi : Option Int) : RpL K L H (cutV xs lo hi) (cutD ds lo hi) := by
  unfold cutV cutD
  rw [r.length]
  exact (r.drop _).take _
def gSl (v : Val) (lo hi : Option Int) (S : Sto) : Res Val := match seqOf S v with
  | some (true, ds, _) => .ok (.d (.tuple (cutD ds lo hi))) S
  | some (false, ds, _) => .ok (.f (.lst (cutD ds lo hi))) S
  | none => .no
def rS (K : Frg) : V → Option Int → Option Int → Hp → VK → Prop := fun x lo hi H Q => ∃ A S v, Wf K A S H ∧ Rv K A H x v ∧ Post K A H Q (gSl v lo hi S)
theorem slR : SlR X (rS X.K) := by
  intro pins s σ H x u vl vu lo hi sl Q I ru hs pl pu ⟨A, S, v, wf, rv, p⟩
  unfold gSl at p
  split at p
  · rename_i ds g hq
    obtain ⟨a, xs, e1, r1, sq⟩ := seq_at hq wf rv
    refine sl_tupA pins s σ H x u vl vu lo hi sl Q I ru hs pl pu ⟨a, xs, e1, sq, fun c => ?_, fun c q hq => Post.tup p .refl wf hq (r1.cut lo hi)⟩
    have e2 : cutD ds lo hi = ds := by
      unfold cutD
      rw [r1.length] at c
      rw [c.1, c.2]
      simp
    rw [e2] at p
    cases v with
    | d y =>
      cases y <;> first | (cases hq; done) | skip
      cases hq
      rw [e1] at rv
      exact p _ H .refl wf rv
    | c n =>
      have hq : (match S[n]? with
        | some (.lst es) => some (false, es, [(n, es)])
        | _ => none) = some (true, ds, g) := hq
      split at hq <;> cases hq
    | z ds => cases hq
    | f k => cases hq
  · rename_i ds g hq
    obtain ⟨a, xs, e1, r1, sq⟩ := seq_at hq wf rv
    exact sl_list pins s σ H x u vl vu lo hi sl Q I ru hs pl pu ⟨a, xs, e1, sq, fun q hq => Post.fresh p wf hq (r1.cut lo hi)⟩
  · exact p.elim
def evSl (f : Sx) (lo hi : SO) : Sx := fun ρ S => (f ρ S).bind fun v S1 => (lo ρ S1).bind fun l S2 => (hi ρ S2).bind fun h S3 => gSl v.th l h S3
theorem eSl {lo hi : Option Expr} {l h : SO} {p2 : Pos} (ha : PE X a (tE X.K fa)) (hl : PO X lo (tOp' X.K l)) (hh : PO X hi (tOp' X.K h)) : PE X (.Subscript a (.Slice lo hi none p2) pos) (tE X.K (evSl fa l h)) := PEi (pe_slice slR ha hl hh) fun σ H Q ⟨A, S, ρ, w, env, p⟩ =>
  at_seq (P := Post X.K A H Q) w env p (fun h => h) (fun _ _ h => h) fun v S1 x H1 e1 w1 r1 p1 => ⟨A, S1, ρ, w1, env.mono e1, PostO.seq (P := Post X.K A H Q) p1 (fun h => h) (fun _ _ h => h) fun lo S2 H2 e2 w2 p2 =>
    ⟨A, S2, ρ, w2, (env.mono e1).mono e2, PostO.seq (P := Post X.K A H Q) p2 (fun h => h) (fun _ _ h => h) fun hi S3 H3 e3 w3 p3 => ⟨A, S3, v.th, w3, (r1.mono e2).mono e3, p3.shift ((e1.trans e2).trans e3) w3⟩⟩⟩

/-! ### x[i] = v -/
def putD (ps : List (PyData × PyData)) (k : Key) (y : PyData) : List (PyData × PyData) :=
  if (look ps k).isSome then ps.map fun p => if kOf p.1 = some k then (p.1, y) else p else ps ++ [(kD k, y)]
theorem RpD.append {L : List Addr} : ∀ {kvs lvs : List (Key × V)} {ps qs : List (PyData × PyData)}, RpD K L H kvs ps → RpD K L H lvs qs → RpD K L H (kvs ++ lvs) (ps ++ qs)
  | _, _, _, _, .nil, t => t
  | _, _, _, _, .cons r s, t => .cons r (RpD.append s t)
theorem RpD.length {L : List Addr} : ∀ {kvs : List (Key × V)} {ps : List (PyData × PyData)}, RpD K L H kvs ps → kvs.length = ps.length
  | _, _, .nil => rfl
  | _, _, .cons _ t => by rw [List.length_cons, List.length_cons, RpD.length t]
theorem RpD.repl {L : List Addr} {k : Key} {v : V} {y : PyData} (ry : Rp K L H v y) : ∀ {kvs : List (Key × V)} {ps : List (PyData × PyData)}, RpD K L H kvs ps →
    RpD K L H (kvs.map fun kv => if kv.1 = k then (kv.1, v) else kv) (ps.map fun p => if kOf p.1 = some k then (p.1, y) else p)
  | _, _, .nil => .nil
  | _, _, .cons (k := j) (v := u) (kvs := kvs) (d := d) (ps := ps) r t => by
    rw [List.map_cons, List.map_cons]
    by_cases e : j = k
    · have h1 : kOf (kD j, d).1 = some k := by rw [← e]; exact kOf_kD j
      rw [if_pos h1, if_pos (show (j, u).1 = k from e)]
      exact .cons ry (RpD.repl ry t)
    · have h1 : ¬ kOf (kD j, d).1 = some k := fun z => e (Option.some.inj ((kOf_kD j).symm.trans z))
      rw [if_neg h1, if_neg (show ¬ (j, u).1 = k from e)]
      exact .cons r (RpD.repl ry t)
theorem RpD.put {L : List Addr} {k : Key} {v : V} {y : PyData} (ry : Rp K L H v y) {kvs : List (Key × V)} {ps : List (PyData × PyData)} (r : RpD K L H kvs ps) : RpD K L H (putK kvs k v) (putD ps k y) := by
  unfold putK putD
  rw [valV_any]
  rcases look_ok (k := k) r with ⟨h1, h2⟩ | ⟨d, u, h1, h2, _⟩
  · rw [h1, h2]
    exact r.append (.cons ry .nil)
  · rw [h1, h2]
    exact r.repl ry
def gPut (v i x : Val) (S : Sto) : Option Sto := match v, x with
  | .c n, .d y => match S[n]? with
    | some (.lst ds) => match i with
      | .d (.int k) => match ixN ds.length k with
        | some j => some (S.set n (.lst (ds.set j y)))
        | none => none
      | _ => none
    | some (.dic ps) => match i with
      | .d z => match kOf z with
        | some k => if ps.length < sizeLine then some (S.set n (.dic (putD ps k y))) else none
        | none => none
      | _ => none
    | none => none
  | _, _ => none
def rP (K : Frg) : V → V → V → Hp → (Hp → Prop) → Prop := fun o i x H Q => ∃ A S v w y S', Wf K A S H ∧ Rv K A H o v ∧ Rv K A H i w ∧ Rv K A H x y ∧ gPut v w y S = some S' ∧ ∀ H', Ext A H A H' → Wf K A S' H' → Q H'
theorem set_any (hu : X.A.units + 1 < cLine) : PSet X (rP X.K) := by
  intro pins s σ H o i x ov iv xv Q I ro ri rx ⟨A, S, v, w, y, S', wf, rv, rw, ry, hp, q⟩
  unfold gPut at hp
  split at hp
  · rename_i n y'
    obtain ⟨a, ha, e1⟩ := rv
    subst e1
    have ma : a ∈ A.A := List.mem_of_getElem? ha
    split at hp
    · rename_i ds hds
      obtain ⟨xs, h2, h3⟩ := wf.ok n a _ ha hds
      split at hp
      · rename_i k
        split at hp
        · rename_i j hj
          cases hp
          refine set_list pins s σ H _ i x ov iv xv Q I ro ri rx ⟨a, xs, k, j, rfl, Rp.int_inv rw, h2, by rw [h3.length]; exact hj, q _ (.upd ma) (wf.upd ha ⟨_, upd_same, (h3.set ry j).mono (kp_upd ma)⟩)⟩
        · cases hp
      · cases hp
    · rename_i ps hps
      obtain ⟨kvs, h2, h3⟩ := wf.ok n a _ ha hps
      split at hp
      · rename_i z
        split at hp
        · rename_i k hk
          split at hp
          · rename_i hl
            cases hp
            have e2 := Rp.key rw hk
            subst e2
            cases ro
            have hl' : kvs.length < sizeLine := by rw [h3.length]; exact hl
            exact d_setItem hu I (DPut.k (v := x) h2 hl') ri rx fun s' I' => ⟨_, I', q _ (.upd ma) (wf.upd ha ⟨_, upd_same, (h3.put ry).mono (kp_upd ma)⟩)⟩
          · cases hp
        · cases hp
      · cases hp
    · cases hp
  · cases hp
def sPut (fo fi fe : Sx) : Ss := fun ρ S => (fe ρ S).bind fun x S1 => (fo ρ S1).bind fun v S2 => (fi ρ S2).bind fun i S3 => match gPut v.th i.th x.th S3 with
  | some S4 => .ok (.nx ρ) S4
  | none => .no
theorem sPutR {o i : Expr} {fo fi : Sx} {p2 : Pos} (hu : X.A.units + 100 < cLine) (ho : PE X o (tE X.K fo)) (hi : PE X i (tE X.K fi)) (he : PE X a (tE X.K fa))
    (hx : ∀ v, assign (.Subscript o i p2) X.env v = (do
      let ov ← holding [v] (eval o X.env)
      let iv ← holding [v, ov] (eval i X.env)
      standAt p2
      holding [v, ov, iv] (setItem ov iv v)
      release [v, ov, iv] []) := by intro _; rfl)
    (hs : swapsWithSole [.Subscript o i p2] a pos.line X.env = pure false := by rfl) (hw : swappedStores [.Subscript o i p2] a X.env = pure none := by rfl)
    (h1 : (assignEach [.Subscript o i p2] X.env).map (·.2) = [assign (.Subscript o i p2) X.env] := by rfl) : PS X (.Assign [.Subscript o i p2] a pos) (tS X.K (sPut fo fi fa)) :=
  PSi (ps_asg he (pg_sub ho hi (set_any (by omega)) hx) hs hw h1) fun D σ H ⟨A, S, ρ, w, env, p⟩ =>
  at_seq (P := PostS X.K A H D) w env p (fun h => h) (fun _ _ h => h) fun x S1 xv H1 e1 w1 r1 p1 =>
    at_seq (P := PostS X.K A H D) w1 (env.mono e1) p1 (fun h => h) (fun _ _ h => h) fun v S2 ov H2 e2 w2 r2 p2 =>
      at_seq (P := PostS X.K A H D) w2 ((env.mono e1).mono e2) p2 (fun h => h) (fun _ _ h => h) fun i S3 iv H3 e3 w3 r3 p3 => by
        split at p3
        · rename_i S4 h4
          refine ⟨A, S3, v.th, i.th, x.th, S4, w3, r2.mono e3, r3, r1.mono (e2.trans e3), h4, fun H4 e4 w4 => ?_⟩
          have e := ((e1.trans e2).trans e3).trans e4
          exact p3 A σ H4 e w4 (env.mono e)
        · exact p3.elim

/-! ### x += e -/
def sAug (i : Nat) (g : Val → Val → Sto → Res Val) (f : Sx) : Ss := fun ρ S => match ρ[i]? with
  | some (some v) => (f ρ S).bind fun w S1 => (g v w.th S1).bind fun z S2 => .ok (.nx (ρ.set i (some z.th))) S2
  | _ => .no
theorem sAugR (i : Nat) {x : Str} {op : Operator} {g : Val → Val → Sto → Res Val} {pos' : Pos} (hN : X.N.Nodup) (hi : X.N[i]? = some x) (hx : Loc X.env.scope x) (h : ORul X (inplaceOp op) g) (he : PE X a (tE X.K fa))
    (hf : X.fn x = true ∨ X.env.scope.names.lookup x = some .local := by first | exact .inl rfl | exact .inr rfl | assumption) : PS X (.AugAssign (.Name x pos') op a pos) (tS X.K (sAug i g fa)) :=
  PSi (ps_aug (i := i) hN hi hx he (ti := rO X.K g) (fun pins s σ H x y v u Q I rv ru hq => h.op pins s σ H x y v u Q I rv ru hq) hf) fun D σ H ⟨A, S, ρ, w, env, p⟩ => by
    dsimp only [sAug] at p
    split at p
    · rename_i v hv
      obtain ⟨y, h1, h2⟩ := env.get i v hv
      refine ⟨y, h1, at_seq (P := PostS X.K A H D) w env p (fun h => h) (fun _ _ h => h) fun u S1 z H1 e1 w1 r1 p1 => ?_⟩
      refine ⟨A, S1, v, u.th, w1, h2.mono e1, r1, Post.seq (P := PostS X.K A H D) p1 (fun h => h) (fun _ _ h => h) fun t S2 tv H2 e2 w2 r2 p2 => ?_⟩
      have e := e1.trans e2
      exact p2 A _ H2 e w2 ((env.mono e).set r2)
    · exact p.elim
theorem oAugAdd : ORul X (inplaceOp .Add) (gInt (fun _ _ => true) fun i j => .int (i + j)) := oInt0 iop_add fun _ _ _ _ => .int _
theorem oAugSub : ORul X (inplaceOp .Sub) gSub := oInt0 iop_sub fun _ _ _ _ => .int _
end
end MV
set_option Elab.async false
set_option linter.all false
set_option maxRecDepth 100000
set_option maxHeartbeats 1000000
/-! Readings by mirrors: methods, built-ins. -/
namespace MV
open PySem PySem.Spec PyProof.Rows L2
section
variable {X : Cx} {K : Frg} {a b : Expr} {fa fb : Sx} {pos : Pos} {A A' A2 : Wd} {H H' H2 : Hp} {S S' : Sto} {Q : VK} {ρ : Envi} {σ : L2.St} {D : Ends}
/-! ### methods -/
def MRul (X : Cx) (id : String) (g : Val → List Val → Sto → Res Val) : Prop :=
  ∀ (pins : List (Addr × Obj)) (s : Shared) (σ : L2.St) (A : Wd) (S : Sto) (H : Hp) (x : V) (xs : List V) (u : Value) (us : List Value) (v : Val) (vs : List Val) (Q : VK), Inv X pins σ H s → Wf X.K A S H → Rv X.K A H x v → RvL X.K A H xs vs → RelV x u → Vals xs us →
    Post X.K A H Q (g v vs S) → wpAny (model X.prog X.w) X.A (call (.builtin id) (u :: us)) (EP X pins σ Q) X.xe s
def rM (K : Frg) (g : Val → List Val → Sto → Res Val) : V → List V → Hp → VK → Prop := fun x xs H Q => ∃ A S v vs, Wf K A S H ∧ Rv K A H x v ∧ RvL K A H xs vs ∧ Post K A H Q (g v vs S)
theorem MRul.mt {id : String} {g : Val → List Val → Sto → Res Val} (h : MRul X id g) : MtR X id (rM X.K g) := fun pins s σ H x xs u us Q I ru rus ⟨A, S, v, vs, w, r1, r2, p⟩ => h pins s σ A S H x xs u us v vs Q I w r1 r2 ru rus p
/-- what kind of thing a method is asked of -/
def tyB (T : String) (S : Sto) (v : Val) : Bool :=
  (T == "list" && (asL S v).isSome) || (T == "dict" && (asM S v).isSome) || (T == "str" && (match v with | .d (.str _) => true | _ => false))
theorem tyB_ok {T : String} {x : V} {v : Val} (w : Wf K A S H) (r : Rv K A H x v) (h : tyB T S v = true) : tyV K T x H := by
  unfold tyB at h
  rw [Bool.or_eq_true, Bool.or_eq_true, Bool.and_eq_true, Bool.and_eq_true, Bool.and_eq_true] at h
  rcases h with (⟨h1, h2⟩ | ⟨h1, h2⟩) | ⟨h1, h2⟩
  · obtain ⟨ds, hd⟩ := Option.isSome_iff_exists.mp h2
    obtain ⟨a, xs, rfl, g, _⟩ := asL_ok w r hd
    exact .inl ⟨eq_of_beq h1, xs, SqL.of g⟩
  · obtain ⟨ds, hd⟩ := Option.isSome_iff_exists.mp h2
    obtain ⟨a, xs, rfl, g, _⟩ := asM_ok w r hd
    exact .inr (.inr (.inl ⟨eq_of_beq h1, .inl ⟨xs, g⟩⟩))
  · split at h2
    · rw [Rp.str_inv r]; exact eq_of_beq h1
    · cases h2
def evMt (T : String) (g : Val → List Val → Sto → Res Val) (fo : Sx) (f : SA) : Sx := fun ρ S => (fo ρ S).bind fun v S1 => if tyB T S1 v.th = true then (f ρ S1).bind fun vs S2 => g v.th vs S2 else .no
section
variable {o e : Expr} {es : List Expr} {fo : Sx} {f : SA} {name : Str} {apos cpos : Pos} {T id : String} {g : Val → List Val → Sto → Res Val}
theorem eM (pa : PlainAttrs T) (slot : Slot T name id) (hty : typeOf (.builtin id) = pure (.type "method_descriptor")) (hm : MRul X id g) (ho : PE X o (tE X.K fo)) (ha : PA X (e :: es) (tAr X.K f))
    (hbase : attributeBase o name X.env (eval o X.env) = eval o X.env := by rfl)
    (hfew : ((backTo cpos (starEach (e :: es) X.env)).all (fun x => !x.1) && (backToKw cpos (keywordEach [] X.env)).all (fun x => x.1.isSome)
      && decide ((e :: es).length + ([] : List Keyword).length + (if ([] : List Keyword).isEmpty then 0 else 1) < 30)) = true := by rfl)
    (hline : (apos.endLine == cpos.line) = true := by rfl) (hs : starEach (e :: es) X.env = (false, eval e X.env) :: starEach es X.env := by rfl) (hplain : (backTo cpos (starEach es X.env)).any (·.1) = false := by rfl) :
    PE X (.Call (.Attribute o name apos) (e :: es) [] cpos) (tE X.K (evMt T g fo f)) := PEi (pe_bm pa slot hty hm.mt ho ha hbase hfew hline hs hplain) fun σ H Q ⟨A, S, ρ, w, env, p⟩ =>
  at_seq (P := Post X.K A H Q) w env p (fun h => h) (fun _ _ h => h) fun v S1 x H1 e1 w1 r1 p1 => by
    split at p1
    · rename_i c
      exact ⟨tyB_ok w1 r1 c, A, S1, ρ, w1, env.mono e1, PostA.seq (P := Post X.K A H Q) p1 (fun h => h) (fun _ _ h => h) fun vs S2 xs H2 e2 w2 r2 p2 => ⟨A, S2, v.th, vs, w2, r1.mono e2, r2, p2.shift (e1.trans e2) w2⟩⟩
    · exact p1.elim
theorem eM0 (pa : PlainAttrs T) (slot : Slot T name id) (hty : typeOf (.builtin id) = pure (.type "method_descriptor")) (hm : MRul X id g) (ho : PE X o (tE X.K fo))
    (hbase : attributeBase o name X.env (eval o X.env) = eval o X.env := by rfl) (hline : (apos.endLine == cpos.line) = true := by rfl) : PE X (.Call (.Attribute o name apos) [] [] cpos) (tE X.K (evMt T g fo aNil)) :=
  PEi (pe_bm0 pa slot hty hm.mt ho hbase hline) fun σ H Q ⟨A, S, ρ, w, env, p⟩ =>
  at_seq (P := Post X.K A H Q) w env p (fun h => h) (fun _ _ h => h) fun v S1 x H1 e1 w1 r1 p1 => by
    split at p1
    · rename_i c
      exact ⟨tyB_ok w1 r1 c, A, S1, v.th, [], w1, r1, .nil, p1.shift e1 w1⟩
    · exact p1.elim
end
/-- the list cell that v is -/
def cellL (S : Sto) : Val → Option (Nat × List PyData)
  | .c n => match S[n]? with
    | some (.lst ds) => some (n, ds)
    | _ => none
  | _ => none
theorem cellL_ok {x : V} {v : Val} {n : Nat} {ds : List PyData} (w : Wf K A S H) (r : Rv K A H x v) (h : cellL S v = some (n, ds)) : ∃ a xs, A.A[n]? = some a ∧ a ∈ A.A ∧ x = .ref a ∧ H a = some (.lst xs) ∧ RpL K A.V H xs ds := by
  cases v with
  | c m =>
    have h : (match S[m]? with
      | some (.lst es) => some (m, es)
      | _ => none) = some (n, ds) := h
    split at h
    · rename_i es q
      cases h
      obtain ⟨a, h1, rfl⟩ := r
      obtain ⟨xs, h2, h3⟩ := w.ok n a _ h1 q
      exact ⟨a, xs, h1, List.mem_of_getElem? h1, rfl, h2, h3⟩
    · cases h
  | _ => cases h
theorem Post.put {n : Nat} {a : Addr} {ds : List PyData} {xs : List V} {y : V} {d : PyData} (p : Post K A H Q (.ok (.d d) (S.set n (.lst ds)))) (w : Wf K A S H) (ha : A.A[n]? = some a) (r : RpL K A.V H xs ds) (ry : Rp K A.V H y d) : Q y (L2.upd H a (.lst xs)) := by
  have ma : a ∈ A.A := List.mem_of_getElem? ha
  exact p y _ (.upd ma) (w.upd ha ⟨xs, upd_same, r.mono (kp_upd ma)⟩) (ry.mono (kp_upd ma))
def gAppend (v : Val) (vs : List Val) (S : Sto) : Res Val := match cellL S v, vs with
  | some (n, ds), [.d y] => if ds.length < sizeLine then .ok (.d .none) (S.set n (.lst (ds ++ [y]))) else .no
  | _, _ => .no
theorem mAppend : MRul X "list.append" gAppend := by
  intro pins s σ A S H x xs u us v vs Q I wf rv rvs ru rus p
  unfold gAppend at p
  split at p
  · rename_i n ds y h1
    split at p
    · rename_i hl
      obtain ⟨a, ys, ha, ma, rfl, h2, h3⟩ := cellL_ok wf rv h1
      cases rvs with | cons r1 r2 => cases r2; exact mt_append pins s σ H _ _ u us Q I ru rus ⟨a, ys, _, rfl, rfl, h2, by rw [h3.length]; exact hl, p.put wf ha (h3.append (.cons r1 .nil)) .non⟩
    · exact p.elim
  · exact p.elim
def gExtend (v : Val) (vs : List Val) (S : Sto) : Res Val := match cellL S v, vs with
  | some (n, ds), [w] => match asL S w with
    | some es => if ds.length + es.length ≤ sizeLine then .ok (.d .none) (S.set n (.lst (ds ++ es))) else .no
    | none => .no
  | _, _ => .no
theorem mExtend : MRul X "list.extend" gExtend := by
  intro pins s σ A S H x xs u us v vs Q I wf rv rvs ru rus p
  unfold gExtend at p
  split at p
  · rename_i n ds y h1
    split at p
    · rename_i es h4
      split at p
      · rename_i hl
        obtain ⟨a, ys, ha, ma, rfl, h2, h3⟩ := cellL_ok wf rv h1
        cases rvs with | cons r1 r2 =>
          cases r2
          obtain ⟨b, zs, rfl, h5, h6⟩ := asL_ok wf r1 h4
          exact mt_extend pins s σ H _ _ u us Q I ru rus ⟨a, b, ys, zs, rfl, rfl, h2, h5, by rw [h3.length, h6.length]; exact hl, p.put wf ha (h3.append h6) .non⟩
      · exact p.elim
    · exact p.elim
  · exact p.elim
def gPop (v : Val) (vs : List Val) (S : Sto) : Res Val := match cellL S v, vs with
  | some (n, ds), [] => match ds[ds.length - 1]? with
    | some y => .ok (.d y) (S.set n (.lst ds.dropLast))
    | none => .no
  | some (n, ds), [.d (.int i)] => if -(2 ^ 63) ≤ i ∧ i < 2 ^ 63 then match seqIndex? i ds.length with
    | some k => match ds[k]? with
      | some y => .ok (.d y) (S.set n (.lst (ds.eraseIdx k)))
      | none => .no
    | none => .no else .no
  | _, _ => .no
theorem mPop : MRul X "list.pop" gPop := by
  intro pins s σ A S H x xs u us v vs Q I wf rv rvs ru rus p
  unfold gPop at p
  split at p
  · rename_i n ds h1
    split at p
    · rename_i y hy
      obtain ⟨a, ys, ha, ma, rfl, h2, h3⟩ := cellL_ok wf rv h1
      cases rvs
      obtain ⟨z, hz, rz⟩ := h3.get hy
      exact mt_pop pins s σ H _ _ u us Q I ru rus ⟨a, ys, z, rfl, rfl, h2, by rw [h3.length]; exact hz, p.put wf ha h3.dropLast rz⟩
    · exact p.elim
  · rename_i n ds i h1
    split at p
    · rename_i hi
      split at p
      · rename_i k hk
        split at p
        · rename_i y hy
          obtain ⟨a, ys, ha, ma, rfl, h2, h3⟩ := cellL_ok wf rv h1
          cases rvs with | cons r1 r2 =>
            cases r2
            obtain ⟨z, hz, rz⟩ := h3.get hy
            have e1 := Rp.int_inv r1
            subst e1
            exact mt_popAt pins s σ H _ _ u us Q I ru rus ⟨a, ys, i, k, z, rfl, rfl, h2, hi.1, hi.2, by rw [h3.length]; exact hk, hz, p.put wf ha (h3.eraseIdx k) rz⟩
        · exact p.elim
      · exact p.elim
    · exact p.elim
  · exact p.elim
def gInsert (v : Val) (vs : List Val) (S : Sto) : Res Val := match cellL S v, vs with
  | some (n, ds), [.d (.int i), .d y] => if ds.length < sizeLine ∧ 0 ≤ i ∧ i < 2 ^ 63 then .ok (.d .none) (S.set n (.lst (ds.take i.toNat ++ [y] ++ ds.drop i.toNat))) else .no
  | _, _ => .no
theorem mInsert : MRul X "list.insert" gInsert := by
  intro pins s σ A S H x xs u us v vs Q I wf rv rvs ru rus p
  unfold gInsert at p
  split at p
  · rename_i n ds i y h1
    split at p
    · rename_i hl
      obtain ⟨a, ys, ha, ma, rfl, h2, h3⟩ := cellL_ok wf rv h1
      cases rvs with | cons r0 r1 => cases r1 with | cons r1 r2 =>
        cases r2
        have e1 := Rp.int_inv r0
        subst e1
        exact mt_insert pins s σ H _ _ u us Q I ru rus ⟨a, ys, i, _, rfl, rfl, h2, by rw [h3.length]; exact hl.1, hl.2.1, hl.2.2, p.put wf ha (((h3.take _).append (.cons r1 .nil)).append (h3.drop _)) .non⟩
    · exact p.elim
  · exact p.elim

/-! ### built-ins -/
def intsOf : List PyData → Option (List Int)
  | [] => some []
  | .int i :: r => (intsOf r).map (i :: ·)
  | _ :: _ => none
theorem intsOf_ok : ∀ {ds : List PyData} {ns : List Int}, intsOf ds = some ns → ds = ns.map .int
  | [], _, h => by cases h; rfl
  | .int i :: r, ns, h => by
    unfold intsOf at h
    cases q : intsOf r with
    | none => rw [q] at h; cases h
    | some es => rw [q] at h; cases h; rw [intsOf_ok q]; rfl
theorem intsOf_map : ∀ ns : List Int, intsOf (ns.map .int) = some ns
  | [] => rfl
  | n :: ns => by
    show (intsOf (ns.map .int)).map (n :: ·) = _
    rw [intsOf_map ns]; rfl
def bolsOf : List PyData → Option (List Bool)
  | [] => some []
  | .bool i :: r => (bolsOf r).map (i :: ·)
  | _ :: _ => none
theorem bolsOf_ok : ∀ {ds : List PyData} {ns : List Bool}, bolsOf ds = some ns → ds = ns.map .bool
  | [], _, h => by cases h; rfl
  | .bool i :: r, ns, h => by
    unfold bolsOf at h
    cases q : bolsOf r with
    | none => rw [q] at h; cases h
    | some es => rw [q] at h; cases h; rw [bolsOf_ok q]; rfl
theorem bolsOf_map : ∀ ns : List Bool, bolsOf (ns.map .bool) = some ns
  | [] => rfl
  | n :: ns => by
    show (bolsOf (ns.map .bool)).map (n :: ·) = _
    rw [bolsOf_map ns]; rfl
/-- a list that may be read -/
def asR (S : Sto) (v : Val) : Option (List PyData) := match seqOf S v with
  | some (false, ds, _) => some ds
  | _ => none
theorem asR_ok {x : V} {v : Val} {ds : List PyData} (w : Wf K A S H) (r : Rv K A H x v) (h : asR S v = some ds) : ∃ a xs, x = .ref a ∧ SqL K H a xs ∧ RpL K A.V H xs ds := by
  unfold asR at h
  split at h
  · rename_i es g hq
    cases h
    obtain ⟨a, xs, e, r1, sq⟩ := seq_at hq w r
    exact ⟨a, xs, e, sq, r1⟩
  · cases h
def g1 (f : Sto → Val → Option PyData) : List Val → Sto → Res Val
  | [v], S => match f S v with
    | some d => .ok (.d d) S
    | none => .no
  | _, _ => .no
def fLen (S : Sto) (v : Val) : Option PyData := match v with
  | .d (.str z) => if z.length ≤ sizeLine then some (.int z.length) else none
  | v => match asM S v with
    | some ps => some (.int ps.length)
    | none => match seqOf S v with
      | some q => some (.int q.2.1.length)
      | none => none
theorem bLen : BRul X (.builtin "len") (g1 fLen) := by
  intro pins s σ A S H xs us vs Q I wf rvs rus p
  unfold g1 at p
  split at p
  · rename_i v _
    cases rvs with | cons r1 r2 =>
      cases r2
      split at p
      · rename_i d hd
        unfold fLen at hd
        split at hd
        · split at hd
          · rename_i hl
            cases hd
            exact call_len_str pins s σ H _ us Q I rus ⟨_, by rw [Rp.str_inv r1], hl, p _ H .refl wf (.int _)⟩
          · cases hd
        · split at hd
          · rename_i ps hps
            cases hd
            obtain ⟨a, kvs, rfl, h1, h2⟩ := asM_ok wf r1 hps
            obtain ⟨u, rfl, ru⟩ := vals1 rus
            cases ru
            exact d_len I (.inl h1) fun t s' I' => ⟨.int kvs.length, H, I', ⟨t, rfl⟩, by rw [h2.length]; exact p _ H .refl wf (.int _)⟩
          · split at hd
            · rename_i q hq
              cases hd
              obtain ⟨a, ys, rfl, h1, h2⟩ := seq_at (t := q.1) (ds := q.2.1) (g := q.2.2) hq wf r1
              refine call_len_seq pins s σ H _ us Q I rus ⟨a, ys, rfl, ?_, by rw [h1.length]; exact p _ H .refl wf (.int _)⟩
              cases ht : q.1 with
              | true => rw [ht] at h2; exact .inr h2
              | false => rw [ht] at h2; exact .inl h2
            · cases hd
      · exact p.elim
  · exact p.elim
def fAbs (_ : Sto) : Val → Option PyData
  | .d (.int i) => some (.int (if i < 0 then -i else i))
  | _ => none
theorem b1i {f : Value} {r : List V → Hp → VK → Prop} {F : Sto → Val → Option PyData} (hc : CallR X f r) (h : ∀ A S H x v d Q, Wf X.K A S H → Rv X.K A H x v → F S v = some d → (∀ y H', Ext A H A H' → Wf X.K A S H' → Rp X.K A.V H' y d → Q y H') → r [x] H Q) : BRul X f (g1 F) := by
  intro pins s σ A S H xs us vs Q I wf rvs rus p
  unfold g1 at p
  split at p
  · cases rvs with | cons r1 r2 =>
      cases r2
      split at p
      · rename_i d hd
        exact hc pins s σ H _ us Q I rus (h A S H _ _ d Q wf r1 hd p)
      · exact p.elim
  · exact p.elim
theorem bAbs : BRul X (.builtin "abs") (g1 fAbs) := b1i call_abs fun A S H x v d Q wf r h p => by
  unfold fAbs at h
  split at h
  · cases h; exact ⟨_, by rw [Rp.int_inv r], p _ H .refl wf (.int _)⟩
  · cases h
def fInt (_ : Sto) : Val → Option PyData
  | .d (.int i) => some (.int i)
  | .d (.bool b) => some (.int (if b then 1 else 0))
  | _ => none
theorem bInt : BRul X (.type "int") (g1 fInt) := b1i call_int1 fun A S H x v d Q wf r h p => by
  unfold fInt at h
  split at h
  · cases h; exact .inl ⟨_, by rw [Rp.int_inv r], p _ H .refl wf (.int _)⟩
  · cases h; exact .inr ⟨_, by rw [Rp.bl_inv r], p _ H .refl wf (.int _)⟩
  · cases h
def fTuple (S : Sto) (v : Val) : Option PyData := match seqOf S v with
  | some q => some (.tuple q.2.1)
  | none => none
theorem bTuple : BRul X (.type "tuple") (g1 fTuple) := b1i call_tuple_of fun A S H x v d Q wf r h p => by
  unfold fTuple at h
  split at h
  · rename_i q hq
    cases h
    obtain ⟨a, ys, rfl, h1, h2⟩ := seq_at (t := q.1) (ds := q.2.1) (g := q.2.2) hq wf r
    refine ⟨a, ys, rfl, ?_⟩
    cases ht : q.1 with
    | true =>
      rw [ht] at h2
      refine .inr ⟨h2, ?_⟩
      obtain ⟨t, ds, g⟩ := q
      dsimp only at ht
      subst ht
      cases v with
      | d y =>
        cases y <;> first | (cases hq; done) | skip
        cases hq
        exact p _ H .refl wf r
      | c n =>
        have hq : (match S[n]? with
          | some (.lst es) => some (false, es, [(n, es)])
          | _ => none) = some (true, ds, g) := hq
        split at hq <;> cases hq
      | z ds => cases hq
      | f k => cases hq
    | false =>
      rw [ht] at h2
      exact .inl ⟨h2, fun l hl => p _ _ (.laid hl) (wf.laid hl) (.tup (.inl ⟨.inl upd_same, wf.off hl⟩) (h1.mono (Ext.laid hl).kp))⟩
  · cases h
def gList : List Val → Sto → Res Val
  | [v], S => match seqOf S v with
    | some q => .ok (.f (.lst q.2.1)) S
    | none => .no
  | _, _ => .no
theorem bList : BRul X (.type "list") gList := by
  intro pins s σ A S H xs us vs Q I wf rvs rus p
  unfold gList at p
  split at p
  · cases rvs with | cons r1 r2 =>
      cases r2
      split at p
      · rename_i q hq
        obtain ⟨a, ys, rfl, h1, h2⟩ := seq_at (t := q.1) (ds := q.2.1) (g := q.2.2) hq wf r1
        refine call_list_of pins s σ H _ us Q I rus ⟨a, ys, rfl, ?_, fun l hl => p.fresh wf hl h1⟩
        cases ht : q.1 with
        | true => rw [ht] at h2; exact .inr h2
        | false => rw [ht] at h2; exact .inl h2
      · exact p.elim
  · exact p.elim
def fSum (S : Sto) (v : Val) : Option PyData := match asR S v with
  | some ds => (intsOf ds).map fun ns => .int ns.sum
  | none => none
theorem bSum (hc : X.calm = true) : BRul X (.builtin "sum") (g1 fSum) := b1i (cr_sum hc) fun A S H x v d Q wf r h p => by
  unfold fSum at h
  split at h
  · rename_i ds hds
    obtain ⟨ns, hn, e⟩ := Option.map_eq_some_iff.mp h
    subst e
    obtain ⟨a, xs, rfl, h1, h2⟩ := asR_ok wf r hds
    rw [intsOf_ok hn] at h2
    have e := h2.ints
    subst e
    exact ⟨a, ns, rfl, h1, p _ H .refl wf (.int _)⟩
  · cases h
def fAll (S : Sto) (v : Val) : Option PyData := match asR S v with
  | some ds => (bolsOf ds).map fun ns => .bool (ns.all id)
  | none => none
theorem bAll (hc : X.calm = true) : BRul X (.builtin "all") (g1 fAll) := b1i (cr_all hc) fun A S H x v d Q wf r h p => by
  unfold fAll at h
  split at h
  · rename_i ds hds
    obtain ⟨ns, hn, e⟩ := Option.map_eq_some_iff.mp h
    subst e
    obtain ⟨a, xs, rfl, h1, h2⟩ := asR_ok wf r hds
    rw [bolsOf_ok hn] at h2
    have e := h2.bls
    subst e
    exact ⟨a, ns, rfl, h1, p _ H .refl wf (.bl _)⟩
  · cases h
def fAny (S : Sto) (v : Val) : Option PyData := match asR S v with
  | some ds => (bolsOf ds).map fun ns => .bool (ns.any id)
  | none => none
theorem bAny (hc : X.calm = true) : BRul X (.builtin "any") (g1 fAny) := b1i (cr_any hc) fun A S H x v d Q wf r h p => by
  unfold fAny at h
  split at h
  · rename_i ds hds
    obtain ⟨ns, hn, e⟩ := Option.map_eq_some_iff.mp h
    subst e
    obtain ⟨a, xs, rfl, h1, h2⟩ := asR_ok wf r hds
    rw [bolsOf_ok hn] at h2
    have e := h2.bls
    subst e
    exact ⟨a, ns, rfl, h1, p _ H .refl wf (.bl _)⟩
  · cases h
def topL : List Int → Option Int
  | [] => none
  | n :: ns => some (ns.foldl max n)
def lowL : List Int → Option Int
  | [] => none
  | n :: ns => some (ns.foldl min n)
theorem foldl_max : ∀ (ns : List Int) (n : Int), (ns.foldl max n = n ∨ ns.foldl max n ∈ ns) ∧ n ≤ ns.foldl max n ∧ ∀ y ∈ ns, y ≤ ns.foldl max n
  | [], n => ⟨.inl rfl, Int.le_refl _, by simp⟩
  | m :: ns, n => by
    obtain ⟨h1, h2, h3⟩ := foldl_max ns (max n m)
    rw [List.foldl_cons]
    refine ⟨?_, by omega, fun y hy => ?_⟩
    · rcases h1 with h1 | h1
      · rw [h1]
        by_cases c : n ≤ m
        · exact .inr (by rw [Int.max_eq_right c]; simp)
        · exact .inl (Int.max_eq_left (by omega))
      · exact .inr (List.mem_cons_of_mem _ h1)
    · rcases List.mem_cons.mp hy with rfl | hy
      · omega
      · exact h3 y hy
theorem foldl_min : ∀ (ns : List Int) (n : Int), (ns.foldl min n = n ∨ ns.foldl min n ∈ ns) ∧ ns.foldl min n ≤ n ∧ ∀ y ∈ ns, ns.foldl min n ≤ y
  | [], n => ⟨.inl rfl, Int.le_refl _, by simp⟩
  | m :: ns, n => by
    obtain ⟨h1, h2, h3⟩ := foldl_min ns (min n m)
    rw [List.foldl_cons]
    refine ⟨?_, by omega, fun y hy => ?_⟩
    · rcases h1 with h1 | h1
      · rw [h1]
        by_cases c : m ≤ n
        · exact .inr (by rw [Int.min_eq_right c]; simp)
        · exact .inl (Int.min_eq_left (by omega))
      · exact .inr (List.mem_cons_of_mem _ h1)
    · rcases List.mem_cons.mp hy with rfl | hy
      · omega
      · exact h3 y hy
theorem topL_ok {ns : List Int} {t : Int} (h : topL ns = some t) : t ∈ ns ∧ ∀ y ∈ ns, y ≤ t := by
  cases ns with
  | nil => cases h
  | cons n ns =>
    cases h
    obtain ⟨h1, h2, h3⟩ := foldl_max ns n
    refine ⟨?_, fun y hy => ?_⟩
    · rcases h1 with h1 | h1
      · rw [h1]; simp
      · exact List.mem_cons_of_mem _ h1
    · rcases List.mem_cons.mp hy with rfl | hy
      · exact h2
      · exact h3 y hy
theorem lowL_ok {ns : List Int} {t : Int} (h : lowL ns = some t) : t ∈ ns ∧ ∀ y ∈ ns, t ≤ y := by
  cases ns with
  | nil => cases h
  | cons n ns =>
    cases h
    obtain ⟨h1, h2, h3⟩ := foldl_min ns n
    refine ⟨?_, fun y hy => ?_⟩
    · rcases h1 with h1 | h1
      · rw [h1]; simp
      · exact List.mem_cons_of_mem _ h1
    · rcases List.mem_cons.mp hy with rfl | hy
      · exact h2
      · exact h3 y hy
def gMax : List Val → Sto → Res Val
  | [.d (.int i), .d (.int j)], S => .ok (.d (.int (if j > i then j else i))) S
  | [v], S => match (asR S v).bind intsOf with
    | some ns => match topL ns with
      | some t => .ok (.d (.int t)) S
      | none => .no
    | none => .no
  | _, _ => .no
theorem bMax (hc : X.calm = true) : BRul X (.builtin "max") gMax := by
  intro pins s σ A S H xs us vs Q I wf rvs rus p
  unfold gMax at p
  split at p
  · cases rvs with | cons r1 r2 => cases r2 with | cons r2 r3 => cases r3; exact call_max2 hc pins s σ H _ us Q I rus ⟨_, _, by rw [Rp.int_inv r1, Rp.int_inv r2], p _ H .refl wf (.int _)⟩
  · split at p
    · rename_i ns hns
      split at p
      · rename_i t ht
        cases rvs with | cons r1 r2 =>
          cases r2
          obtain ⟨ds, h1, h2⟩ := Option.bind_eq_some_iff.mp hns
          obtain ⟨a, ys, rfl, h3, h4⟩ := asR_ok wf r1 h1
          rw [intsOf_ok h2] at h4
          have e := h4.ints
          subst e
          obtain ⟨t1, t2⟩ := topL_ok ht
          refine cr_max hc pins s σ H _ us Q I rus ⟨a, ns, rfl, h3, List.length_pos_of_mem t1, fun m h5 h6 => ?_⟩
          have e : m = t := Int.le_antisymm (t2 m h5) (h6 t t1)
          rw [e]
          exact p _ H .refl wf (.int _)
      · exact p.elim
    · exact p.elim
  · exact p.elim
def gMin : List Val → Sto → Res Val
  | [.d (.int i), .d (.int j)], S => .ok (.d (.int (if j < i then j else i))) S
  | [v], S => match (asR S v).bind intsOf with
    | some ns => match lowL ns with
      | some t => .ok (.d (.int t)) S
      | none => .no
    | none => .no
  | _, _ => .no
theorem bMin (hc : X.calm = true) : BRul X (.builtin "min") gMin := by
  intro pins s σ A S H xs us vs Q I wf rvs rus p
  unfold gMin at p
  split at p
  · cases rvs with | cons r1 r2 => cases r2 with | cons r2 r3 => cases r3; exact call_min2 hc pins s σ H _ us Q I rus ⟨_, _, by rw [Rp.int_inv r1, Rp.int_inv r2], p _ H .refl wf (.int _)⟩
  · split at p
    · rename_i ns hns
      split at p
      · rename_i t ht
        cases rvs with | cons r1 r2 =>
          cases r2
          obtain ⟨ds, h1, h2⟩ := Option.bind_eq_some_iff.mp hns
          obtain ⟨a, ys, rfl, h3, h4⟩ := asR_ok wf r1 h1
          rw [intsOf_ok h2] at h4
          have e := h4.ints
          subst e
          obtain ⟨t1, t2⟩ := lowL_ok ht
          refine cr_min hc pins s σ H _ us Q I rus ⟨a, ns, rfl, h3, List.length_pos_of_mem t1, fun m h5 h6 => ?_⟩
          have e : m = t := Int.le_antisymm (h6 t t1) (t2 m h5)
          rw [e]
          exact p _ H .refl wf (.int _)
      · exact p.elim
    · exact p.elim
  · exact p.elim
end
end MV
set_option Elab.async false
set_option linter.all false
set_option maxRecDepth 100000
set_option maxHeartbeats 1000000
/-! Readings by mirrors: sorted, isinstance, zip, enumerate. -/
namespace MV
open PySem PySem.Spec PyProof.Rows L2
/-! ### sorted -/
mutual
theorem reads_there {h : Heap} : ∀ {v : Value} {d : PyData} {as : List Addr}, Reads h v d as → ∀ b ∈ as, ∃ o, h.get? b = some o
  | _, _, _, .none, b, hb => by cases hb
  | _, _, _, .bool _, b, hb => by cases hb
  | _, _, _, .int _ _, b, hb => by cases hb
  | _, _, _, .str _ _, b, hb => by cases hb
  | _, _, _, .list h1 _ _ t, b, hb => by
    rcases List.mem_cons.mp hb with rfl | hb
    · exact ⟨_, h1⟩
    · exact readsAll_there t b hb
  | _, _, _, .tuple h1 _ _ t, b, hb => readsAll_there t b hb
  | _, _, _, .dict h1 _ _ t t', b, hb => by
    rcases List.mem_append.mp hb with hb | hb
    · rcases List.mem_cons.mp hb with rfl | hb
      · exact ⟨_, h1⟩
      · exact readsAll_there t b hb
    · exact readsAll_there t' b hb
theorem readsAll_there {h : Heap} : ∀ {v : List Value} {d : List PyData} {as : List Addr}, ReadsAll h v d as → ∀ b ∈ as, ∃ o, h.get? b = some o
  | _, _, _, .nil, b, hb => by cases hb
  | _, _, _, .cons t t', b, hb => by
    rcases List.mem_append.mp hb with hb | hb
    · exact reads_there t b hb
    · exact readsAll_there t' b hb
end
def sortOk (ds : List PyData) : Prop := PySem.W.AllAlike ds ∧ PySem.W.Sortable ds ∧ ds.length ≤ sizeLine ∧ ∀ d ∈ ds, SeqAt.shaped d = true
def sortD (ds : List PyData) : List PyData := ds.mergeSort (PySem.W.dataLe false id)
open Classical in
noncomputable def gSorted : List Val → Sto → Res Val
  | [v], S => match seqOf S v with
    | some q => if sortOk q.2.1 then .ok (.f (.lst (sortD q.2.1))) S else .no
    | none => .no
  | _, _ => .no
section
variable {X : Cx} {K : Frg} {a b : Expr} {fa fb : Sx} {pos : Pos} {A A' A2 : Wd} {H H' H2 : Hp} {S S' : Sto} {Q : VK} {ρ : Envi} {σ : L2.St} {D : Ends}
theorem rpl_each : ∀ {xs : List V} {us : List Value} {ds : List PyData}, RpL K A.V H xs ds → Vals xs us → PySem.W.EachIs (fun u d => ∃ x, RelV x u ∧ Rp K A.V H x d) us ds
  | _, _, _, .nil, .nil => .nil
  | _, _, _, .cons r t, .cons q p => .cons ⟨_, q, r⟩ (rpl_each t p)
theorem each_rpl : ∀ {us : List Value} {ds : List PyData}, PySem.W.EachIs (fun u d => ∃ x, RelV x u ∧ Rp K A.V H x d) us ds → ∃ xs, RpL K A.V H xs ds ∧ Vals xs us
  | _, _, .nil => ⟨[], .nil, .nil⟩
  | _, _, .cons ⟨x, q, r⟩ t => by
    obtain ⟨xs, h1, h2⟩ := each_rpl t
    exact ⟨x :: xs, .cons r h1, .cons q h2⟩
theorem shaped_lay {ds : List PyData} (h : ∀ d ∈ ds, SeqAt.shaped d = true) : PyData.canLayAll0 ds = true := by
  induction ds with
  | nil => rfl
  | cons d ds ih =>
    unfold PyData.canLayAll0
    rw [SeqAt.canLay_of_shaped (h d (by simp)), ih fun e he => h e (List.mem_cons_of_mem _ he)]; rfl
theorem each_reads {h : Heap} : ∀ {us : List Value} {ds : List PyData} {as : List Addr}, ReadsAll h us ds as → PySem.W.EachIs (fun u d => ∃ as, Reads h u d as) us ds
  | _, _, _, .nil => .nil
  | _, _, _, .cons r t => .cons ⟨_, r⟩ (each_reads t)
theorem bSorted (hu : X.A.units + 100 < cLine) : BRul X (.builtin "sorted") gSorted := by
  intro pins s σ A S H xs us vs Q I wf rvs rus p
  unfold gSorted at p
  split at p
  case h_2 => exact p.elim
  rename_i v _
  cases rvs with | cons r1 r2 =>
  cases r2
  split at p
  case h_2 => exact p.elim
  rename_i q hq
  split at p
  case isFalse => exact p.elim
  rename_i ok
  obtain ⟨al, so, hl, sh⟩ := ok
  obtain ⟨a, ys, rfl, h1, h2⟩ := seq_at (t := q.1) (ds := q.2.1) (g := q.2.2) hq wf r1
  obtain ⟨u, rfl, ru⟩ := vals1 rus
  cases ru
  generalize q.2.1 = ds at *
  have key : ∃ its o n T, (T = "list" ∨ T = "tuple") ∧ Vals ys its ∧ s.heap.get? a = some o ∧ o.cls = .type T ∧ o.data = .seq its.toArray n := by
    cases ht : q.1 with
    | true =>
      rw [ht] at h2
      obtain ⟨its, rv, ⟨o, e1, e2, n, e3⟩, _⟩ := I.tuple (show SqT X.K H a ys from h2)
      exact ⟨its, o, n, "tuple", .inr rfl, rv, e1, e2, e3⟩
    | false =>
      rw [ht] at h2
      obtain ⟨its, rv, ⟨o, n, e1, e2, _, e3⟩, _⟩ := I.list (show SqL X.K H a ys from h2)
      exact ⟨its, o, n, "list", .inl rfl, rv, e1, e2, e3⟩
  obtain ⟨its, o, n, T, hT, rv, e1, e2, e3⟩ := key
  have hlen : its.length = ds.length := by rw [← rv.length, h1.length]
  refine Calls.call_function_entry kind_sorted plain_sorted entry_sorted (args_sorted1 _) ?_
  unfold Builtin.«sorted»
  refine wpAny_bind (m := checkCount "sorted" 1 1 _) (wpAny_pure ?_)
  refine wpAny_bind (wpAny_collect_seq a hT e1 e2 e3 (fun h' hk => ?_) (by rw [List.size_toArray, hlen]; exact hl))
  refine wpAny_bind (wpAny_newList ?_ (by show its.length ≤ _; rw [hlen]; exact hl))
  have I1 : Inv X pins σ H { s with heap := h' } := I.kept (t' := s.toks) hk
  obtain ⟨as, rd⟩ := Dp.readsAll I1 ds ys its (RpL.dp ds ys (shaped_lay sh) h1) rv
  generalize hL : h'.objs.size = L
  have hnone : h'.get? L = none := Heap.get?_none_of_le (by rw [← hL]; exact Nat.le_refl _)
  have hkeep : ∀ b o, h'.get? b = some o → (h'.push { cls := .type "list", data := .seq its.toArray }).get? b = some o := fun b o e => Heap.get?_push_of_some _ e
  have hobj : (h'.push { cls := .type "list", data := .seq its.toArray }).get? L = some (seqObj "list" its.toArray 0) := by rw [← hL]; exact Heap.get?_push_size _ rfl
  refine wpAny_bind (wpAny_holding ?_)
  refine PySem.W.list_sort_data (vs := its) (bs := ds) (enc := id) (R := fun u d => ∃ x, RelV x u ∧ Rp X.K A.V H x d) (n := 0) hobj (rpl_each h1 rv) ?_ (by simpa using al) (by simpa using so) hl ?_ fun out ho eo => ?_
  · have z := each_reads rd
    have z2 : ∀ {us : List Value} {ds : List PyData}, PySem.W.EachIs (fun u d => ∃ as, Reads h' u d as) us ds → PySem.W.EachIs (fun v b => ∃ as, Reads (h'.push { cls := .type "list", data := .seq its.toArray }) v (id b) as ∧ L ∉ as) us ds := fun z => z.mono fun u d ⟨as, r⟩ => ⟨as, PyProof.Rows.Reads.keeps hkeep r, fun m => by
      obtain ⟨o, e⟩ := reads_there r L m
      rw [hnone] at e; cases e⟩
    exact z2 z
  · intro d hd
    have h64 := SeqAt.depth_of_shaped (sh d hd)
    show X.A.in1.units + 1 + d.depth < cLine
    have : X.A.in1.units = X.A.units + 1 := rfl
    omega
  · obtain ⟨zs, r3, r4⟩ := each_rpl eo
    obtain ⟨ep, he⟩ := sortedHeap_at (h := h'.push { cls := .type "list", data := .seq its.toArray }) (vs := its) (n := 0) (out := out.toArray) hobj
    refine wpAny_pure ⟨_, rfl, ?_⟩
    have kk : ∀ b u, h'.get? b = some u → (sortedHeap (h'.push { cls := .type "list", data := .seq its.toArray }) L its out.toArray).get? b = some u := fun b u e' => by
      have hlt := Heap.lt_size e'
      rw [sortedHeap_old (by rw [← hL]; exact Nat.ne_of_lt hlt) (by rw [Heap.size_push]; exact Nat.lt_succ_of_lt hlt)]
      exact hkeep b u e'
    have hp : H L = none := I1.hok.fresh (Nat.le_of_eq hL)
    refine ⟨.ref L, upd H L (.lst zs), I1.laid (t' := s.toks) kk (Nat.le_of_eq hL) ⟨?_, out, ep, r4, he⟩, rfl, p.fresh wf hp r3⟩
    rw [r4.length, ho]; exact hl

/-! ### isinstance -/
def kind (S : Sto) : Val → Option String
  | .d .none => some "NoneType"
  | .d (.bool _) => some "bool"
  | .d (.int _) => some "int"
  | .d (.str _) => some "str"
  | .d (.list _) => some "list"
  | .d (.tuple _) => some "tuple"
  | .d (.dict _) => some "dict"
  | .z _ => some "list"
  | .c n => match S[n]? with
    | some (.lst _) => some "list"
    | some (.dic _) => some "dict"
    | none => none
  | .f _ => none
theorem kind_ok {x : V} {v : Val} {t : String} (w : Wf K A S H) (r : Rv K A H x v) (h : kind S v = some t) : TyX K H x (.type t) := by
  cases v with
  | f k => cases h
  | z ds =>
    cases h
    obtain ⟨a, xs, rfl, h1, _⟩ := r
    rcases h1 with ⟨h1 | ⟨o, h1⟩, _⟩ | (h1 | ⟨o, h1⟩) | ⟨o, its, n, h1, h2, _⟩
    · exact .base (.lst h1)
    · exact .base (.frz h1)
    · cases h1
    · cases h1
    · exact .kList h1 h2
  | c n =>
    obtain ⟨a, ha, rfl⟩ := r
    have h : (match S[n]? with
      | some (.lst _) => some "list"
      | some (.dic _) => some "dict"
      | none => none) = some t := h
    split at h
    · rename_i ds q
      cases h
      obtain ⟨xs, h2, _⟩ := w.ok n a _ ha q
      exact .base (.lst h2)
    · rename_i ds q
      cases h
      obtain ⟨xs, h2, _⟩ := w.ok n a _ ha q
      exact .base (.dK h2)
    · cases h
  | d y =>
    have r : Rp K A.V H x y := r
    cases r with
    | non => cases h; exact .base .non
    | bl b => cases h; exact .base (.bl b)
    | int b => cases h; exact .base (.int b)
    | str b => cases h; exact .base (.str b)
    | lst l t => cases h; exact .base (.lst l.1)
    | dic l n t => cases h; exact .base (.dK l)
    | tup l t =>
      cases h
      rcases l with ⟨h1 | ⟨o, h1⟩, _⟩ | (h1 | ⟨o, h1⟩) | ⟨o, its, n, h1, h2, _⟩
      · exact .base (.tup h1)
      · exact .fTuple h1
      · cases h1
      · cases h1
      · exact .kTuple h1 h2
def isOf (T t : String) : Bool := t == T || (t == "bool" && T == "int")
def kinds6 : List String := ["NoneType", "bool", "int", "str", "list", "tuple", "dict"]
theorem kits : (kinds6.all fun t => (["bool", "int", "str", "list", "tuple", "dict"] : List String).all fun T => decide (kitB t T = some (isOf T t))) = true := by decide +kernel
theorem kind_in {v : Val} {t : String} (h : kind S v = some t) : t ∈ kinds6 := by
  unfold kind at h
  split at h <;> first | (cases h; simp [kinds6]; done) | skip
  · split at h <;> first | (cases h; simp [kinds6]; done) | (cases h; done)
  · cases h
theorem kit_at {t T : String} (h : t ∈ kinds6) (hT : T ∈ (["bool", "int", "str", "list", "tuple", "dict"] : List String)) : kitB t T = some (isOf T t) :=
  of_decide_eq_true (List.all_eq_true.mp (List.all_eq_true.mp kits t h) T hT)
def evIsi (T : String) (f : Sx) : Sx := fun ρ S => (f ρ S).bind fun v S1 => match kind S1 v.th with
  | some t => .ok (.d (.bool (isOf T t))) S1
  | none => .no
theorem eIsi {x : Str} {p p2 : Pos} {T : String} (hT : T ∈ (["bool", "int", "str", "list", "tuple", "dict"] : List String)) (hg : Gl X "isinstance") (hm : X.mg "isinstance" = none) (hg2 : Gl X x) (hm2 : X.mg x = none) (hv2 : bootBuiltins x = some (.type T)) (ha : PE X a (tE X.K fa))
    (hn2 : x ≠ "__name__" := by decide) (hd2 : (x == ("__debug__" : Str)) = false := by decide)
    (he : starEach [a, .Name x p2] X.env = (false, eval a X.env) :: starEach [.Name x p2] X.env := by rfl) (he2 : starEach [.Name x p2] X.env = (false, eval (.Name x p2) X.env) :: starEach [] X.env := by rfl) (hpl : (backTo pos (starEach [.Name x p2] X.env)).any (·.1) = false := by rfl) :
    PE X (.Call (.Name "isinstance" p) [a, .Name x p2] [] pos) (tE X.K (evIsi T fa)) :=
  PEi (pe_callB call_isi hg hm (by decide +kernel) (pa_cons ha (pa_cons (pe_bltn (v := .ty T) hg2 hm2 hv2 rfl hn2 hd2) pa_nil he2) he) (by decide) (by decide) he hpl) fun σ H Q ⟨A, S, ρ, w, env, p⟩ =>
  at_seq (P := Post X.K A H Q) w env p (fun h => h) (fun _ _ h => h) fun v S1 y H1 e1 w1 r1 p1 => by
    split at p1
    · rename_i t ht
      exact ⟨y, .ty T, .type t, .type T, isOf T t, rfl, .ty T, kind_ok w1 r1 ht, kit_ty (kit_at (kind_in ht) hT), p1 _ H1 e1 w1 (.bl _)⟩
    · exact p1.elim

/-! ### zip -/
def zipD (ds es : List PyData) : List PyData := (ds.zip es).map fun p => .tuple [p.1, p.2]
def gZip (S : Sto) : List Val → Option Src
  | [v, w] => match seqOf S v, seqOf S w with
    | some q, some r => if q.1 = r.1 then some ⟨zipD q.2.1 r.2.1, q.2.2 ++ r.2.2⟩ else none
    | _, _ => none
  | _ => none
theorem zipD_length (ds es : List PyData) : (zipD ds es).length = min ds.length es.length := by simp [zipD]
theorem zipD_get {ds es : List PyData} {i : Nat} {d e : PyData} (h1 : ds[i]? = some d) (h2 : es[i]? = some e) : (zipD ds es)[i]? = some (.tuple [d, e]) := by
  simp [zipD, List.zip, List.getElem?_zipWith, h1, h2]
theorem pair_new {x y : V} {d e : PyData} {T : Addr} (w : Wf K A S H) (hT : H T = none) (r1 : Rp K A.V H x d) (r2 : Rp K A.V H y e) : Ext A H A (upd H T (.tup [x, y])) ∧ Wf K A S (upd H T (.tup [x, y])) ∧ Rp K A.V (upd H T (.tup [x, y])) (.ref T) (.tuple [d, e]) :=
  ⟨.laid hT, w.laid hT, .tup (.inl ⟨.inl upd_same, w.off hT⟩) (.cons (r1.mono (Ext.laid hT).kp) (.cons (r2.mono (Ext.laid hT).kp) .nil))⟩
theorem src_zip {v u : Val} {S0 : Sto} {t : Bool} {ds es : List PyData} {g g' : List (Nat × List PyData)} {a b : Addr} (h : seqOf S0 v = some (t, ds, g)) (h' : seqOf S0 u = some (t, es, g')) :
    SrcW K (if t = true then RZ.ItzT K a b else Itz K a b) ⟨zipD ds es, g ++ g'⟩ (fun A H => Rv K A H (.ref a) v ∧ Rv K A H (.ref b) u) := by
  have both : ∀ {A : Wd} {S : Sto} {H : Hp}, Wf K A S H → (Rv K A H (.ref a) v ∧ Rv K A H (.ref b) u) → GOk S ⟨zipD ds es, g ++ g'⟩ → ∃ xs ys, RpL K A.V H xs ds ∧ RpL K A.V H ys es ∧ SqA K t H a xs ∧ SqA K t H b ys := by
    intro A S H w r gk
    obtain ⟨a', xs, e1, q1, s1⟩ := seq_stand h w r.1 fun p hp => gk p (List.mem_append_left _ hp)
    obtain ⟨b', ys, e2, q2, s2⟩ := seq_stand h' w r.2 fun p hp => gk p (List.mem_append_right _ hp)
    cases e1
    cases e2
    exact ⟨xs, ys, q1, q2, s1, s2⟩
  refine ⟨fun A H A' H' e r => ⟨r.1.kx e, r.2.kx e⟩, fun i A S H hi w r gk => ?_, fun A S H w r gk => ?_, fun i A S H x H' hi w r gk y => ?_⟩
  all_goals obtain ⟨xs, ys, q1, q2, s1, s2⟩ := both w r gk
  · rw [zipD_length] at hi
    obtain ⟨x, hx, _⟩ := q1.get (List.getElem?_eq_getElem (show i < ds.length by omega))
    obtain ⟨y, hy, _⟩ := q2.get (List.getElem?_eq_getElem (show i < es.length by omega))
    cases t with
    | true => exact ⟨xs, ys, x, y, s1, s2, hx, hy⟩
    | false => exact ⟨xs, ys, x, y, s1, s2, hx, hy⟩
  · rw [zipD_length]
    have l1 := q1.length
    have l2 := q2.length
    cases t with
    | true => exact ⟨xs, ys, s1, s2, by omega⟩
    | false => exact ⟨xs, ys, s1, s2, by omega⟩
  · have fin : ∃ T x' y', x = .ref T ∧ H T = none ∧ H' = upd H T (.tup [x', y']) ∧ xs[i]? = some x' ∧ ys[i]? = some y' := by
      cases t with
      | true => obtain ⟨T, x', y', e1, e2, e3, f1, f2⟩ := y; exact ⟨T, x', y', e1, e2, e3, f1 xs s1, f2 ys s2⟩
      | false => obtain ⟨T, x', y', e1, e2, e3, f1, f2⟩ := y; exact ⟨T, x', y', e1, e2, e3, f1 xs s1, f2 ys s2⟩
    obtain ⟨T, x', y', rfl, hT, rfl, f1, f2⟩ := fin
    obtain ⟨d, h1, r1⟩ := q1.getV f1
    obtain ⟨e, h2, r2⟩ := q2.getV f2
    obtain ⟨n1, n2, n3⟩ := pair_new (x := x') (y := y') w hT r1 r2
    exact ⟨_, zipD_get h1 h2, n1, n2, n3⟩
def iByS (g : Sto → List Val → Option Src) (f : SA) : SI := fun ρ S => (f ρ S).bind fun vs S1 => match g S1 vs with
  | some s => .ok s S1
  | none => .no
theorem iZ {e e2 : Expr} {f : SA} {p tpos : Pos} {elts : List Expr} {kk : Nat} (hg : Gl X "zip") (hm : X.mg "zip" = none) (ha : PA X [e, e2] (tAr X.K f))
    (hs : starEach [e, e2] X.env = (false, eval e X.env) :: starEach [e2] X.env := by rfl) (hpl : (backTo pos (starEach [e2] X.env)).any (·.1) = false := by rfl) :
    PI X (.Tuple elts kk tpos) (.Call (.Name "zip" p) [e, e2] [] pos) (tI X.K (iByS gZip f)) :=
  PIi (RZ.pi_zipA hg hm ha hs hpl) fun σ H R ⟨A, S, ρ, w, env, p⟩ => ⟨A, S, ρ, w, env, PostA.seq (P := PostI X.K A H R) p (fun h => h) (fun _ _ h => h) fun vs S1 xs H1 e1 w1 r1 p1 => by
    split at p1
    · rename_i s hs
      unfold gZip at hs
      split at hs
      · split at hs
        · rename_i q r hq hr
          split at hs
          · rename_i et
            cases hs
            cases r1 with | cons r1 r2 => cases r2 with | cons r2 r3 =>
              cases r3
              obtain ⟨t, ds, g⟩ := q
              obtain ⟨t', es, g'⟩ := r
              dsimp only at et
              subst et
              obtain ⟨a, xs, rfl, q1, s1⟩ := seq_at hq w1 r1
              obtain ⟨b, ys, rfl, q2, s2⟩ := seq_at hr w1 r2
              have fin := p1 _ _ H1 e1 w1 (src_zip (a := a) (b := b) hq hr) ⟨r1, r2⟩
              refine ⟨a, b, xs, ys, rfl, ?_⟩
              cases t with
              | true => exact .inr ⟨s1, s2, fin⟩
              | false => exact .inl ⟨s1, s2, fin⟩
          · cases hs
        · cases hs
      · cases hs
    · exact p1.elim⟩
end
end MV
set_option Elab.async false
set_option linter.all false
set_option maxRecDepth 100000
/-! Readings by mirrors: defs of the text, the end of a law. -/
namespace MV
open PySem PySem.Spec PyProof.Rows L2
/-- the name x calls a def that keeps the mirror m, by at most level k -/
structure Cal (P : Program) (w : World) (K : Frg) (mg : Str → Option Value) (base : Heap) (k : Nat) (x : Str) (m : Fn) : Prop where
  ex : ∃ (f : Addr) (fd : FuncData) (ps : List Str), FnG P w K mg base k f fd ps (spF K m) ∧ mg x = some (.ref f) ∧ PySem.W.keepIn K (.ref f) = true ∧ Binds K fd ps []
theorem hu_room {k : Nat} {A : Around} (hr : Room k A) : A.units + 100 < cLine := by have := hr.un; omega
section
variable {X : Cx} {K : Frg} {pos : Pos} {x : Str} {p : Pos} {e : Expr} {es : List Expr} {f : SA} {k j : Nat} {m : Fn}
theorem eCal (C : Cal X.prog X.w X.K X.mg X.base k x m) (hr : Room j X.A) (gd : X.A.guards = some []) (hk : k ≤ j) (hg : Gl X x) (ha : PA X (e :: es) (tAr X.K f)) (hdb : (x == ("__debug__" : Str)) = false := by decide)
    (he : starEach (e :: es) X.env = (false, eval e X.env) :: starEach es X.env := by rfl) (hpl : (backTo pos (starEach es X.env)).any (·.1) = false := by rfl) : PE X (.Call (.Name x p) (e :: es) [] pos) (tE X.K (evCall m f)) := by
  obtain ⟨fa, fd, ps, F, hm, hkp, hb⟩ := C.ex
  exact eF F (hr.mono hk) gd hg hm hkp hb ha hdb he hpl
theorem eCal0 (C : Cal X.prog X.w X.K X.mg X.base k x m) (hr : Room j X.A) (gd : X.A.guards = some []) (hk : k ≤ j) (hg : Gl X x) (hdb : (x == ("__debug__" : Str)) = false := by decide) : PE X (.Call (.Name x p) [] [] pos) (tE X.K (evCall m aNil)) := by
  obtain ⟨fa, fd, ps, F, hm, hkp, hb⟩ := C.ex
  exact eF0 F (hr.mono hk) gd hg hm hkp hb hdb
end
section
variable {P : Program} {w : World} {K : Frg} {mg : Str → Option Value} {base : Heap} {x qual : Str} {st : Stmt} {fa : Addr} {fd : FuncData} {N ps : List Str} {k np : Nat} {body : Ss}
theorem cal_mk (F : Fun K x qual st fa fd) (S : FnScope N ps (defScope st)) (hnp : ps.length = np) (hm : mg x = some (.ref fa)) (hb : Binds K fd ps [])
    (h : ∀ (cdv : Value) (A : Around) (outer : List PySem.Env) (s : Shared) (H : Hp) (E : XK), Room k (A.deeper (envOfC qual (defScope st) s.heap.objs.size fa cdv)) → A.guards = some [] → PSs (cxOf CX0 P w K mg base N qual (defScope st) fa cdv A outer s H E).nox (defBody st) (tS K body)) :
    Cal P w K mg base (k + 1) x (mkFn np N.length body) := ⟨fa, fd, ps, fn_ok F S hnp h, hm, F.kp, hb⟩
/-- no mirror at all: the base of a recursion -/
theorem cal_no (F : Fun K x qual st fa fd) (hm : mg x = some (.ref fa)) (hb : Binds K fd ps []) : Cal P w K mg base k x (fun _ _ => .no) := ⟨fa, fd, ps, ⟨fun _ _ _ _ h => by
  obtain ⟨_, _, _, _, _, h⟩ := h; exact h.elim, fun _ _ _ _ _ _ _ _ _ _ _ _ _ _ h => by
  obtain ⟨_, _, _, _, _, h⟩ := h; exact h.elim⟩, hm, F.kp, hb⟩
/-- the law's own promise, from its mirror at the script -/
theorem law_sp {m : Fn} {n : Nat} (h : ∀ ns : List Int, ns.length ≤ n → ∃ S, m [.z (ns.map .int)] [] = .ok (.d (.bool true)) S) (H : Hp) (a : Addr) (ns : List Int) (hl : ns.length ≤ n) (hO : Only H) (hS : SqL K H a (ns.map V.int)) :
    spF K m [.ref a] H (fun v _ => v = .bl true) fun _ _ _ => False := by
  obtain ⟨S, e⟩ := h ns hl
  have w0 : Wf K ⟨[], []⟩ [] H := ⟨rfl, .nil, fun n a k h1 => by simp at h1, fun p hp => by cases hp⟩
  refine ⟨⟨[], []⟩, [], [.z (ns.map .int)], w0, .cons ⟨a, ns.map V.int, rfl, ?_, RpL.of_ints ns⟩ .nil, ?_⟩
  · rcases hS with hS | hS
    · exact .inl ⟨hS, by simp [Wd.V]⟩
    · exact .inr (.inr hS)
  · rw [e]
    exact fun v H' _ _ r => Rp.bl_inv r
end
/-! the end of a law -/
section
variable {P : Program} {w : World} {K : Frg} {mg mb : Str → Option Value} {k : Nat} {fa a : Addr} {fd : FuncData} {x : Str} {sp : Sp} {s1 : Shared} {us : List Value} {ns : List Int}
/-- the law's def called at an abstract heap in which no more than the script is told -/
theorem law_at (inK : K.In s1.heap) (nsM : s1.heap.Ns mainGlobals mg) (nsB : s1.heap.Ns builtinsNs mb) (bltn : ∀ y : Str, y ≠ "__name__" → mb y = bootBuiltins y) (lim : s1.heap.NoLimit) (g0 : s1.gens = #[])
    (obj : s1.heap.get? a = some { cls := .type "list", data := .seq us.toArray }) (room : Room k callerA) (F : ∀ base : Heap, K.In base → base.Ns mainGlobals mg → FnG P w K mg base k fa fd [x] sp) (bnd : ∀ (s : Shared) (u : Value), BindsTo s fd ⟨[u], []⟩ [(x, u)])
    (H : Hp) (few : Only H) (promise : sp [.ref a] H (fun v _ => v = .bl true) E0) (told : HOk P w H s1.heap) (sole : ∀ b, H b ≠ none → b = a) (own : H a ≠ none → K.lookup a = none) :
    codeAny (model P w) callerA (.call (.ref fa) ⟨[.ref a], []⟩) (fun r s' => r = .ok (.ret (.bool true)) ∧ OldK s1.heap s'.heap ∧ s'.os = s1.os ∧ AllBare s'.gens) s1 := by
  have dictFree : ∀ {b : Addr} {o : Obj} {es : Array DictEntry} {ep : Nat}, s1.heap.get? b = some o → o.data = .dict es ep → H b = none := by
    intro b o es ep got isD
    by_cases z : H b = none
    · exact z
    · have eb := sole b z
      rw [eb, obj] at got
      cases got
      have bad : Data.seq us.toArray _ = Data.dict es ep := isD
      cases bad
  have space : ∀ {b : Addr} {m : Str → Option Value}, s1.heap.Ns b m → (hidT s1.heap H).Ns b m := by
    rintro b m ⟨o, es, ep, got, isD, rest⟩
    exact ⟨o, es, ep, hidT_get got (dictFree got isD), isD, rest⟩
  have written : K.In (hidT s1.heap H) := by
    intro b o got
    refine hidT_get (inK b o got) ?_
    by_cases z : H b = none
    · exact z
    · have eb := sole b z
      subst eb
      rw [own z] at got
      cases got
  obtain ⟨mc, lim1, lim2⟩ := lim
  have env0 : Env0 P w K mg (hidT s1.heap H) callerA [] s1 H := {
    frames := rfl
    mod := ⟨written, space nsM, ⟨mb, space nsB, bltn⟩, ⟨mc, space lim1, lim2⟩⟩
    bs := fun b o got => of_hidT got
    bsz := Nat.le_of_eq (hidT_size _ _)
    funs := trivial
    frf := fun b mem => by cases (show b ∈ ([] : List Addr) from mem)
    hok := told
    bare := .of_eq g0 }
  refine codeAny_mono ((F _ written (space nsM)).runs callerA [] s1 H ⟨[.ref a], []⟩ [.ref a] [.ref a] _ E0 room rfl env0 (bnd s1 (.ref a)) (.cons rfl .nil) promise) ?_
  intro res s2 q
  match res, q with
  | .ok .next, q => exact q.elim
  | .ok .brk, q => exact q.elim
  | .ok .cont, q => exact q.elim
  | .error e, q => exact q.elim
  | .ok (.ret u), ⟨v, H2, sameOs, bare2, un, told2, rel, isT⟩ =>
    have isT : v = .bl true := isT
    rw [isT] at rel
    obtain rfl : u = Value.bool true := rel
    refine ⟨rfl, OldK.of_keep ?_, sameOs, bare2⟩
    intro b o got
    by_cases z : H b = none
    · exact un.keep b o got z (fun mem => by cases (show b ∈ ([] : List Addr) from mem)) (by simp)
    · rcases few b with n | ⟨ob, xs, fz⟩
      · exact (z n).elim
      · have before := (told b _ fz).1
        have behind := (told2 b _ (un.frzs b ob _ fz)).1
        rw [got] at before
        cases before
        exact behind
theorem law_run (inK : K.In s1.heap) (nsM : s1.heap.Ns mainGlobals mg) (nsB : s1.heap.Ns builtinsNs mb) (bltn : ∀ y : Str, y ≠ "__name__" → mb y = bootBuiltins y) (lim : s1.heap.NoLimit) (g0 : s1.gens = #[])
    (obj : s1.heap.get? a = some { cls := .type "list", data := .seq us.toArray }) (are : IntsAre us ns) (short : ns.length ≤ sizeLine) (room : Room k callerA) (F : ∀ base : Heap, K.In base → base.Ns mainGlobals mg → FnG P w K mg base k fa fd [x] sp)
    (bnd : ∀ (s : Shared) (u : Value), BindsTo s fd ⟨[u], []⟩ [(x, u)]) (promise : ∀ H : Hp, Only H → SqL K H a (ns.map V.int) → sp [.ref a] H (fun v _ => v = .bl true) E0) :
    codeAny (model P w) callerA (.call (.ref fa) ⟨[.ref a], []⟩) (fun r s' => r = .ok (.ret (.bool true)) ∧ OldK s1.heap s'.heap ∧ s'.os = s1.os ∧ AllBare s'.gens) s1 := by
  have n := are.length
  have rel := vals_ints are
  by_cases wr : ∃ o, K.lookup a = some o
  · obtain ⟨o, wr⟩ := wr
    have got := inK a o wr
    rw [obj] at got
    cases got
    have few : Only (fun _ => none) := fun _ => Or.inl rfl
    refine law_at inK nsM nsB bltn lim g0 obj room F bnd (fun _ => none) few (promise _ few (Or.inr ⟨_, us.toArray, _, wr, rfl, rfl, rfl, by rw [List.size_toArray, n]; exact short, by simpa using rel⟩)) ?_ (fun b z => (z rfl).elim) (fun z => (z rfl).elim)
    intro b u z
    cases (show (none : Option HO) = some u from z)
  · have free : K.lookup a = none := by
      cases q : K.lookup a with
      | none => rfl
      | some o => exact (wr ⟨o, q⟩).elim
    let fz : HO := .frz { cls := .type "list", data := .seq us.toArray } (.lst (ns.map V.int))
    let H : Hp := fun b => if b = a then some fz else none
    have here : H a = some fz := if_pos rfl
    have there : ∀ b, b ≠ a → H b = none := fun b ne => if_neg ne
    have few : Only H := fun b => by
      by_cases e : b = a
      · subst e; exact Or.inr ⟨_, _, here⟩
      · exact Or.inl (there b e)
    refine law_at inK nsM nsB bltn lim g0 obj room F bnd H few (promise H few (Or.inl (Or.inr ⟨_, here⟩))) ?_ ?_ fun _ => free
    · intro b u z
      by_cases e : b = a
      · subst e
        rw [here] at z
        cases z
        exact ⟨obj, by rw [List.length_map]; exact short, us, _, rel, obj⟩
      · rw [there b e] at z
        cases z
    · intro b z
      by_cases e : b = a
      · exact e
      · exact (z (there b e)).elim
end
theorem walkG {l : PySem.W.OpenLaw} {n k : Nat} {q : Program} {loose : List Str} {XP : (Str → Option Value) → Heap → Prop} {YP : World → Heap → Prop} {d : DefRec} {K : Params → Frg} {sp : World → Sp} {x : Str} (hn : l.most = some n) (hn2 : n ≤ sizeLine) (hdf : d.params.defaults = []) (room : Room k callerA)
    (inK : ∀ (w : World) (h : Heap), YP w h → (K w.params).In h)
    (F : ∀ (w : World) (mg : Str → Option Value) (fa : Addr) (h : Heap), (K w.params).In h → h.Ns mainGlobals mg → mg d.name = some (.ref fa) → ∃ fd : FuncData, (∀ (s : Shared) (u : Value), BindsTo s fd ⟨[u], []⟩ [(x, u)]) ∧ ∀ base : Heap, (K w.params).In base → base.Ns mainGlobals mg → FnG l.prog w (K w.params) mg base k fa fd [x] (sp w))
    (promise : ∀ (w : World) (H : Hp) (a : Addr) (ns : List Int), ns.length ≤ n → Only H → SqL (K w.params) H a (ns.map V.int) → sp w [.ref a] H (fun v _ => v = .bl true) E0) : PySem.W.WalkO q loose XP YP l.row.toRowW d [] (fun f vs => PySem.call f vs) :=
  Att.attach_call hn hdf fun w s0 s1 mg mb fa o pm cd doc a us ns G Y ho hd hcd isLaw obj are short gens => by
    have written := inK w _ Y
    obtain ⟨fd, bnd, made⟩ := F w mg fa _ written G.T.g isLaw
    exact law_run written G.T.g G.T.b G.T.builtins G.T.nolimit gens obj are (Nat.le_trans short hn2) room made bnd fun H few seen => promise w H a ns short few seen
end MV
set_option Elab.async false
set_option linter.all false
set_option maxRecDepth 100000
set_option maxHeartbeats 1000000
/-! Readings by mirrors: several stores at once, texts of things, more methods. -/
namespace MV
open PySem PySem.Spec PyProof.Rows L2
section
variable {X : Cx} {K : Frg} {a b : Expr} {fa fb : Sx} {pos : Pos} {A A' A2 : Wd} {H H' H2 : Hp} {S S' : Sto} {Q : VK} {ρ : Envi} {σ : L2.St} {D : Ends}
/-! ### arguments of which some become cells -/
def PostAC (K : Frg) (A : Wd) (H : Hp) (Q : List V → Hp → Prop) : Res (List Val) → Prop
  | .ok vs S => ∀ A' xs H', Ext A H A' H' → Wf K A' S H' → RvL K A' H' xs vs → Q xs H'
  | .exc _ _ => False
  | .no => False
def tArC (K : Frg) (f : SA) : TA := fun σ H Q => At K σ H fun A ρ S => PostAC K A H Q (f ρ S)
theorem PostAC.shift {Q : List V → Hp → Prop} {r : Res (List Val)} (h : PostAC K A H Q r) (e : Ext A H A2 H2) : PostAC K A2 H2 Q r := by
  cases r with
  | ok v S1 => exact fun A' v H' e' w' r => h A' v H' (e.trans e') w' r
  | exc _ _ => exact h
  | no => exact h
theorem PostAC.seq {β : Type} {P : Res β → Prop} {Q : List V → Hp → Prop} {r : Res (List Val)} {g : List Val → Sto → Res β} (h : P (r.bind g)) (h0 : P .no → False) (h1 : ∀ e S, P (.exc e S) → False)
    (k : ∀ v S1 x A1 H1, Ext A H A1 H1 → Wf K A1 S1 H1 → RvL K A1 H1 x v → P (g v S1) → Q x H1) : PostAC K A H Q r := by
  cases r with
  | ok v S1 => exact fun A1 x H1 e w r => k v S1 x A1 H1 e w r h
  | exc e S => exact (h1 _ _ h).elim
  | no => exact (h0 h).elim
theorem aNC : PA X [] (tArC X.K aNil) := PAi pa_nil fun σ H Q ⟨A, S, ρ, w, env, p⟩ => p A [] H .refl w .nil
section
variable {e : Expr} {es : List Expr} {f : Sx} {g : SA}
theorem aVC (he : PE X e (tE X.K f)) (hr : PA X es (tArC X.K g)) (hs : starEach (e :: es) X.env = (false, eval e X.env) :: starEach es X.env := by rfl) : PA X (e :: es) (tArC X.K (aCons f g)) :=
  PAi (pa_cons he hr hs) fun σ H Q ⟨A, S, ρ, w, env, p⟩ => at_seq (P := PostAC X.K A H Q) w env p (fun h => h) (fun _ _ h => h) fun v S1 x H1 e1 w1 r1 p1 =>
    ⟨A, S1, ρ, w1, env.mono e1, PostAC.seq (P := PostAC X.K A H Q) p1 (fun h => h) (fun _ _ h => h) fun vs S2 xs A2 H2 e2 w2 r2 p2 => p2 _ _ H2 (e1.trans e2) w2 (.cons (r1.mono e2) r2)⟩
def aCell (f : Sx) (g : SA) : SA := fun ρ S => (f ρ S).bind fun v S1 => match v with
  | .f k => (g ρ (S1 ++ [k])).bind fun vs S2 => .ok (.c S1.length :: vs) S2
  | _ => .no
theorem aCC (he : PE X e (tE X.K f)) (hr : PA X es (tArC X.K g)) (hs : starEach (e :: es) X.env = (false, eval e X.env) :: starEach es X.env := by rfl) : PA X (e :: es) (tArC X.K (aCell f g)) :=
  PAi (pa_cons he hr hs) fun σ H Q ⟨A, S, ρ, w, env, p⟩ => by
    refine ⟨A, S, ρ, w, env, ?_⟩
    show Post X.K A H _ (f ρ S)
    dsimp only [aCell] at p
    cases q : f ρ S with
    | no => rw [q] at p; exact p
    | exc e S1 => rw [q] at p; exact p
    | ok v S1 =>
      rw [q] at p
      cases v with
      | d x => exact p.elim
      | c n => exact p.elim
      | z ds => exact p.elim
      | f k =>
        intro a H' e w1 hn
        have e2 : Ext A H (A.push a) H' := e.grow hn
        refine ⟨A.push a, S1 ++ [k], ρ, w1, env.mono e2, PostAC.seq (P := PostAC X.K A H Q) p (fun h => h) (fun _ _ h => h) fun vs S2 xs A2 H2 e3 w2 r2 p2 => p2 _ _ H2 (e2.trans e3) w2 (.cons ⟨a, ?_, rfl⟩ r2)⟩
        refine e3.at_ ?_
        show (A.A ++ [a])[S1.length]? = some a
        rw [← w1.drop1.1.len]; simp
end
/-! ### a, b, .. = x, y, .. by a tuple -/
def setAll : Envi → List Nat → List Val → Envi
  | ρ, i :: is, v :: vs => setAll (ρ.set i (some v)) is vs
  | ρ, _, _ => ρ
def setSt : L2.St → List Nat → List V → L2.St
  | σ, i :: is, v :: vs => setSt (σ.set i (some v)) is vs
  | σ, _, _ => σ
theorem REnv.setAll : ∀ {is : List Nat} {ρ : Envi} {σ : L2.St} {xs : List V} {vs : List Val}, REnv K A H ρ σ → RvL K A H xs vs → REnv K A H (setAll ρ is vs) (setSt σ is xs)
  | [], _, _, _, _, e, _ => e
  | _ :: _, _, _, _, _, e, .nil => e
  | i :: is, _, _, _, _, e, .cons r rs => REnv.setAll (is := is) (e.set r) rs
def gNames (is : List Nat) : TGs := fun vs σ H Q => vs.length = is.length ∧ Q (setSt σ is vs) H
theorem gnN : PGs X [] (gNames []) := ⟨fun pins s σ H vs us Q I r h => pgs_nil.run pins s σ H vs us Q I r (by
  obtain ⟨e, q⟩ := h
  cases vs with
  | nil => exact ⟨rfl, q⟩
  | cons _ _ => cases e)⟩
theorem gnC {i : Nat} {is : List Nat} {x : Str} {es : List Expr} (hN : X.N.Nodup) (hi : X.N[i]? = some x) (hx : Loc X.env.scope x) (hr : PGs X es (gNames is)) (hf : X.fn x = true ∨ X.env.scope.names.lookup x = some .local := by first | exact .inl rfl | exact .inr rfl | assumption)
    (hs : (assignEach (.Name x pos :: es) X.env).map (·.2) = assign (.Name x pos) X.env :: (assignEach es X.env).map (·.2) := by rfl) : PGs X (.Name x pos :: es) (gNames (i :: is)) :=
  ⟨fun pins s σ H vs us Q I r h => (pgs_cons (pg_name hN hi hx hf) hr hs).run pins s σ H vs us Q I r (by
    obtain ⟨e, q⟩ := h
    cases vs with
    | nil => cases e
    | cons v vr => exact ⟨v, vr, rfl, by simpa using e, q⟩)⟩
def sMul (is : List Nat) (f : SA) : Ss := fun ρ S => (f ρ S).bind fun vs S1 => if vs.length = is.length ∧ vs.length ≤ 1000 then .ok (.nx (setAll ρ is vs)) S1 else .no
theorem sMulR {is : List Nat} {tes es : List Expr} {f : SA} {kt k2 : Nat} {pt p2 : Pos} (hc : X.calm = true) (ha : PA X es (tArC X.K f)) (hg : PGs X tes (gNames is))
    (hn : (assignEach tes X.env).length = is.length := by rfl) (hst : (assignEach tes X.env).findIdx? (·.1) = none := by rfl)
    (hs : swapsWithSole [.Tuple tes kt pt] (.Tuple es k2 p2) pos.line X.env = pure false := by rfl) (hw : swappedStores [.Tuple tes kt pt] (.Tuple es k2 p2) X.env = pure none := by rfl)
    (h1 : (assignEach [.Tuple tes kt pt] X.env).map (·.2) = [assign (.Tuple tes kt pt) X.env] := by rfl) : PS X (.Assign [.Tuple tes kt pt] (.Tuple es k2 p2) pos) (tS X.K (sMul is f)) :=
  PSi (ps_asg (pe_tup ha) (pg_tup hc hg hn hst) hs hw h1) fun D σ H ⟨A, S, ρ, w, env, p⟩ =>
    ⟨A, S, ρ, w, env, PostAC.seq (P := PostS X.K A H D) p (fun h => h) (fun _ _ h => h) fun vs S1 xs A1 H1 e1 w1 r1 p1 => by
      split at p1
      case isFalse => exact p1.elim
      rename_i c
      have hl : xs.length = vs.length := Paired.length r1
      refine ⟨by rw [hl]; exact line1000 c.2, fun q hq => ⟨q, xs, rfl, .inl (.inl upd_same), by rw [hl]; exact c.1, by rw [hl]; exact c.1, ?_⟩⟩
      have e2 := e1.trans (.laid (o := .tup xs) hq)
      exact p1 A1 _ _ e2 (w1.laid hq) (((env.mono e2)).setAll (r1.mono (Ext.laid hq)))⟩
/-! ### a, b, .. = x, y, .. of plain locals -/
theorem sParC (i j : Nat) {x y : Str} {f : SA} {px py pt : Pos} {kt k2 pt2} (hc : X.calm = true) (hN : X.N.Nodup) (hi : X.N[i]? = some x) (hj : X.N[j]? = some y) (hij : i ≠ j)
    (hx : X.env.scope.names.lookup x = some .local) (hy : X.env.scope.names.lookup y = some .local) (ha : PA X [a, b] (tArC X.K f)) (hs : swappedStores [.Tuple [.Name x px, .Name y py] kt pt] (.Tuple [a, b] k2 pt2) X.env = pure (some [x, y]) := by rfl) : PS X (.Assign [.Tuple [.Name x px, .Name y py] kt pt] (.Tuple [a, b] k2 pt2) pos) (tS X.K (sPar i j f)) := PSi (ps_par hc hN hi hj hij hx hy ha hs) fun D σ H ⟨A, S, ρ, w, env, p⟩ =>
  ⟨A, S, ρ, w, env, PostAC.seq (P := PostS X.K A H D) p (fun h => h) (fun _ _ h => h) fun vs S1 xs A1 H1 e1 w1 r1 p1 => by
    split at p1
    · cases r1 with | cons r1 r2 => cases r2 with | cons r2 r3 => cases r3; exact ⟨_, _, rfl, p1 A1 _ H1 e1 w1 (((env.mono e1).set r1).set r2)⟩
    · exact p1.elim⟩
def sPar3 (i j l : Nat) (f : SA) : Ss := fun ρ S => (f ρ S).bind fun vs S1 => match vs with
  | [u, v, w] => .ok (.nx (((ρ.set i (some u)).set j (some v)).set l (some w))) S1
  | _ => .no
theorem sPar3C (i j l : Nat) {x y z : Str} {c : Expr} {f : SA} {px py pz pt : Pos} {kt k2 pt2} (hc : X.calm = true) (hN : X.N.Nodup) (hi : X.N[i]? = some x) (hj : X.N[j]? = some y) (hl : X.N[l]? = some z) (hij : i ≠ j) (hil : i ≠ l) (hjl : j ≠ l)
    (hx : X.env.scope.names.lookup x = some .local) (hy : X.env.scope.names.lookup y = some .local) (hz : X.env.scope.names.lookup z = some .local) (ha : PA X [a, b, c] (tArC X.K f))
    (hs : swappedStores [.Tuple [.Name x px, .Name y py, .Name z pz] kt pt] (.Tuple [a, b, c] k2 pt2) X.env = pure (some [x, y, z]) := by rfl) : PS X (.Assign [.Tuple [.Name x px, .Name y py, .Name z pz] kt pt] (.Tuple [a, b, c] k2 pt2) pos) (tS X.K (sPar3 i j l f)) := PSi (ps_par3 hc hN hi hj hl hij hil hjl hx hy hz ha hs) fun D σ H ⟨A, S, ρ, w, env, p⟩ =>
  ⟨A, S, ρ, w, env, PostAC.seq (P := PostS X.K A H D) p (fun h => h) (fun _ _ h => h) fun vs S1 xs A1 H1 e1 w1 r1 p1 => by
    split at p1
    · cases r1 with | cons r1 r2 => cases r2 with | cons r2 r3 => cases r3 with | cons r3 r4 => cases r4; exact ⟨_, _, _, rfl, p1 A1 _ H1 e1 w1 ((((env.mono e1).set r1).set r2).set r3)⟩
    · exact p1.elim⟩
/-! ### what is never reached -/
theorem eNo (e : Expr) : PE X e (tE X.K fun _ _ => .no) := ⟨fun pins s σ H Q I h => by
  obtain ⟨A, S, ρ, w, env, p⟩ := h
  exact p.elim⟩
theorem sNo (st : Stmt) : PS X st (tS X.K fun _ _ => .no) := ⟨fun pins s σ H D I h => by
  obtain ⟨A, S, ρ, w, env, p⟩ := h
  exact p.elim⟩
/-! ### list.remove of whole numbers -/
def gRemove (v : Val) (vs : List Val) (S : Sto) : Res Val := match cellL S v, vs with
  | some (n, ds), [.d (.int k)] => match intsOf ds with
    | some ns => if k ∈ ns then .ok (.d .none) (S.set n (.lst ((ns.erase k).map .int))) else .no
    | none => .no
  | _, _ => .no
theorem mRemove : MRul X "list.remove" gRemove := by
  intro pins s σ A S H x xs u us v vs Q I wf rv rvs ru rus p
  unfold gRemove at p
  split at p
  · rename_i n ds k hc
    split at p
    · rename_i ns hns
      split at p
      · rename_i hk
        obtain ⟨a, ys, h1, h2, rfl, h3, h4⟩ := cellL_ok wf rv hc
        cases rvs with | cons r1 r2 =>
        cases r2
        have r1 : Rp X.K A.V H _ (.int k) := r1
        cases r1
        have e := intsOf_ok hns
        subst e
        have e2 := h4.ints
        subst e2
        have hlt := List.idxOf_lt_length_of_mem hk
        refine mt_remove pins s σ H _ _ u us Q I ru rus ⟨a, ns, k, ns.idxOf k, rfl, rfl, h3, ?_, ?_, ?_⟩
        · rw [List.getElem?_eq_getElem hlt, List.getElem_idxOf hlt]
        · intro m hm e
          have := List.not_of_lt_findIdx (p := (· == k)) (xs := ns) (i := m) (by simpa [List.idxOf] using hm)
          rw [List.getElem?_eq_getElem (by omega)] at e
          simp at this e
          exact this e
        · rw [← List.erase_eq_eraseIdx_of_idxOf rfl]
          exact p.put wf h1 (RpL.of_ints _) .non
      · exact p.elim
    · exact p.elim
  · exact p.elim
/-! ### texts of things -/
open Classical in
noncomputable def gRepr : List Val → Sto → Res Val
  | [v], S => match asD S v with
    | some d => if d.canLay0 = true ∧ d.showable = true ∧ d.shown.length ≤ sizeLine ∧ d.depth ≤ 64 then .ok (.d (.str d.shown)) S else .no
    | none => .no
  | _, _ => .no
theorem bRepr (hu : X.A.units + 100 < cLine) (gd : X.A.guards = some []) : BRul X (.builtin "repr") gRepr := by
  intro pins s σ A S H xs us vs Q I wf rvs rus p
  unfold gRepr at p
  split at p
  case h_2 => exact p.elim
  rename_i v _
  cases rvs with | cons r1 r2 =>
  cases r2
  split at p
  case h_2 => exact p.elim
  rename_i d hd
  split at p
  case isFalse => exact p.elim
  rename_i c
  obtain ⟨c1, c2, c3, c4⟩ := c
  have dp := asD_dp wf r1 hd c1
  obtain ⟨u, rfl, ru⟩ := vals1 rus
  obtain ⟨as, rd⟩ := Dp.reads I d _ u dp ru
  have fin : ∀ h' t k, (∀ b o, s.heap.get? b = some o → h'.get? b = some o) → EP X pins σ Q (.str d.shown t) { s with heap := h', toks := k } := fun h' t k kp =>
    ⟨.str d.shown, H, I.kept kp, ⟨t, rfl⟩, p _ H .refl wf (.str _)⟩
  have fin0 : EP X pins σ Q (.str d.shown s.toks) { s with toks := s.toks + 1 } := ⟨.str d.shown, H, I.tok _, ⟨_, rfl⟩, p _ H .refl wf (.str _)⟩
  cases d with
  | none => cases rd; simp only [PyData.shown] at fin0; exact PySem.P.repr_of_none fin0
  | bool b => cases rd; simp only [PyData.shown] at fin0; exact PySem.P.repr_of_bool fin0
  | int i =>
    cases rd
    simp only [PyData.shown] at fin0
    exact PySem.P.repr_of_int (by simpa [PyData.showable] using c2) fin0
  | str x =>
    cases rd
    simp only [PyData.shown] at fin0 c3
    exact PySem.P.repr_of_str fin0 c3
  | list ds =>
    cases rd
    all_goals exact repr_of_reads' (by constructor <;> assumption) c2 (fun z => by rw [PyData.hasDict_of_canLay _ c1] at z; cases z) gd (by omega) (fun _ _ h => h) (fun h' t k kp => fin h' t k kp) c3
  | tuple ds =>
    cases rd
    all_goals exact repr_of_reads' (by constructor <;> assumption) c2 (fun z => by rw [PyData.hasDict_of_canLay _ c1] at z; cases z) gd (by omega) (fun _ _ h => h) (fun h' t k kp => fin h' t k kp) c3
  | dict ps => simp [PyData.canLay0] at c1
end
end MV
set_option Elab.async false
set_option linter.all false
set_option maxRecDepth 100000
set_option maxHeartbeats 1000000
/-! dict(zip(s, t)) of two tuples; d.update(a list of pairs). -/
namespace MV
open PySem PySem.Spec PyProof.Rows L2
section
variable {prog : Program} {w : World} {A : Around} {E : Value → Shared → Prop} {s : Shared} {z TI TO T i1 i2 l1 l2 : Addr} {f : Bool} {oT : Obj} {k : Nat} {xs ys : Array Value}
/-- a zip over two tuples whose last pair is still there -/
structure Held (h : Heap) (z TI TO T i1 i2 l1 l2 : Addr) (f : Bool) (oT : Obj) (k : Nat) (xs ys : Array Value) : Prop where
  zip : IsZipHeld h z TI TO T f
  last : h.get? T = some oT
  ins : IsPair h TI (.ref i1) (.ref i2)
  it1 : h.IsTupleIter i1 l1 k
  it2 : h.IsTupleIter i2 l2 k
  tu1 : h.IsTuple l1 xs
  tu2 : h.IsTuple l2 ys
theorem held_next {x y : Value} {Q : Value → Shared → Prop} (D : ZipApart z TI TO i1 i2 l1 l2) (st : Held s.heap z TI TO T i1 i2 l1 l2 f oT k xs ys) (ex : xs[k]? = some x) (ey : ys[k]? = some y)
    (fin : ∀ h', IsZipHeld h' z TI TO T true → h'.IsTupleIter i1 l1 (k + 1) → h'.IsTupleIter i2 l2 (k + 1) → IsPair h' s.heap.objs.size x y → (∀ c o, c ≠ z → c ≠ i1 → c ≠ i2 → s.heap.get? c = some o → h'.get? c = some o) → Q (.ref s.heap.objs.size) { s with heap := h' }) :
    wpAny (model prog w) A (Builtin.«zip.__next__» ⟨[.ref z], []⟩) (fun r s' => ∃ v, r = .done (.ret v) ∧ Q v s') E s := by
  change wpAny _ _ (field (.ref z) 2 >>= _) _ _ _
  apply wpAny_bind
  refine wpAny_field st.zip rfl (x := .bool false) rfl ?_
  change wpAny _ _ (field (.ref z) 3 >>= _) _ _ _
  apply wpAny_bind
  refine wpAny_field st.zip rfl (x := .ref TI) rfl ?_
  apply wpAny_bind
  refine wpAny_seqItems st.ins rfl ?_
  change wpAny _ _ (Builtin.SmallTypes.ownedTupleIsFree (.ref z) >>= _) _ _ _
  apply wpAny_bind
  refine wpAny_tupleHeld_zip st.zip st.last ?_
  intro ha za sa
  have ka : ∀ c o, c ≠ z → s.heap.get? c = some o → ha.get? c = some o := fun c o n q => sa.extBut _ _ n q
  rw [if_neg Bool.false_ne_true]
  apply wpAny_bind
  rw [← Array.forIn_toList]
  simp only [List.forIn_cons, List.forIn_nil]
  apply wpAny_bind
  apply wpAny_bind
  refine wpAny_holding ?_
  change wpAny _ _ (Builtin.SmallTypes.nextOf (.ref i1) >>= _) _ _ _
  apply wpAny_bind
  refine RZ.nextOf_tuple_item (s := { s with heap := ha }) (st.it1.extBut sa.extBut D.i1z) (st.tu1.extBut sa.extBut D.l1z) ex ?_
  intro hb b1 sb
  refine wpAny_pure (wpAny_pure ?_)
  apply wpAny_bind
  apply wpAny_bind
  refine wpAny_holding ?_
  change wpAny _ _ (Builtin.SmallTypes.nextOf (.ref i2) >>= _) _ _ _
  apply wpAny_bind
  refine RZ.nextOf_tuple_item (s := { s with heap := hb }) ((st.it2.extBut sa.extBut D.i2z).extBut sb.extBut D.i12.symm) ((st.tu2.extBut sa.extBut D.l2z).extBut sb.extBut D.l2i1) ey ?_
  intro hc c2 sc
  refine wpAny_pure (wpAny_pure ?_)
  refine wpAny_pure ?_
  change wpAny _ _ (newTuple [x, y] >>= _) _ _ _
  apply wpAny_bind
  refine wpAny_newTuple (wpAny_pure ⟨_, rfl, ?_⟩)
  have size : hc.objs.size = s.heap.objs.size := by rw [sc.1, sb.1, sa.1]
  have kc : ∀ c o, c ≠ z → c ≠ i1 → c ≠ i2 → s.heap.get? c = some o → hc.get? c = some o := fun c o n1 n2 n3 q => sc.extBut _ _ n3 (sb.extBut _ _ n2 (ka c o n1 q))
  have pair : IsPair (hc.push { cls := .type "tuple", data := .seq #[x, y] }) hc.objs.size x y := Heap.get?_push_size _ rfl
  have res := fin (hc.push { cls := .type "tuple", data := .seq #[x, y] }) (Heap.get?_push_of_some _ (sc.extBut _ _ D.i2z.symm (sb.extBut _ _ D.i1z.symm za))) ((b1.extBut sc.extBut D.i12).at fun o q => Heap.get?_push_of_some _ q) (c2.at fun o q => Heap.get?_push_of_some _ q)
  rw [size] at pair
  have res2 := res pair fun c o n1 n2 n3 q => Heap.get?_push_of_some _ (kc c o n1 n2 n3 q)
  rw [← size] at res2
  exact res2
theorem held_stop {Q : PySem.Fin → Shared → Prop} (hh : A.handled = none) (D : ZipApart z TI TO i1 i2 l1 l2) (st : Held s.heap z TI TO T i1 i2 l1 l2 f oT k xs ys) (none1 : xs[k]? = none ∨ ys[k]? = none)
    (fin : ∀ h' e, (∀ c o, c ≠ z → c ≠ i1 → c ≠ i2 → s.heap.get? c = some o → h'.get? c = some o) → (∃ o, h'.get? e = some o ∧ o.cls = .type "StopIteration") → E (.ref e) { s with heap := h' }) : wpAny (model prog w) A (Builtin.«zip.__next__» ⟨[.ref z], []⟩) Q E s := by
  change wpAny _ _ (field (.ref z) 2 >>= _) _ _ _
  apply wpAny_bind
  refine wpAny_field st.zip rfl (x := .bool false) rfl ?_
  change wpAny _ _ (field (.ref z) 3 >>= _) _ _ _
  apply wpAny_bind
  refine wpAny_field st.zip rfl (x := .ref TI) rfl ?_
  apply wpAny_bind
  refine wpAny_seqItems st.ins rfl ?_
  change wpAny _ _ (Builtin.SmallTypes.ownedTupleIsFree (.ref z) >>= _) _ _ _
  apply wpAny_bind
  refine wpAny_tupleHeld_zip st.zip st.last ?_
  intro ha za sa
  have ka : ∀ c o, c ≠ z → s.heap.get? c = some o → ha.get? c = some o := fun c o n q => sa.extBut _ _ n q
  rw [if_neg Bool.false_ne_true]
  apply wpAny_bind
  rw [← Array.forIn_toList]
  simp only [List.forIn_cons, List.forIn_nil]
  apply wpAny_bind
  apply wpAny_bind
  refine wpAny_holding ?_
  change wpAny _ _ (Builtin.SmallTypes.nextOf (.ref i1) >>= _) _ _ _
  apply wpAny_bind
  by_cases q1 : xs[k]? = none
  · refine RZ.nextOf_tuple_end (s := { s with heap := ha }) hh (st.it1.extBut sa.extBut D.i1z) (st.tu1.extBut sa.extBut D.l1z) q1 ?_
    intro hb e keep stop
    exact fin hb e (fun c o n1 n2 _ q => keep _ _ n2 (ka c o n1 q)) stop
  · obtain ⟨x, ex⟩ := Option.ne_none_iff_exists'.mp q1
    refine RZ.nextOf_tuple_item (s := { s with heap := ha }) (st.it1.extBut sa.extBut D.i1z) (st.tu1.extBut sa.extBut D.l1z) ex ?_
    intro hb b1 sb
    refine wpAny_pure (wpAny_pure ?_)
    apply wpAny_bind
    apply wpAny_bind
    refine wpAny_holding ?_
    change wpAny _ _ (Builtin.SmallTypes.nextOf (.ref i2) >>= _) _ _ _
    apply wpAny_bind
    refine RZ.nextOf_tuple_end (s := { s with heap := hb }) hh ((st.it2.extBut sa.extBut D.i2z).extBut sb.extBut D.i12.symm) ((st.tu2.extBut sa.extBut D.l2z).extBut sb.extBut D.l2i1) (none1.resolve_left q1) ?_
    intro hc e keep stop
    exact fin hc e (fun c o n1 n2 n3 q => keep _ _ n3 (sb.extBut _ _ n2 (ka c o n1 q))) stop
theorem held_py {x y : Value} {Q : Option Value → Shared → Prop} (D : ZipApart z TI TO i1 i2 l1 l2) (st : Held s.heap z TI TO T i1 i2 l1 l2 f oT k xs ys) (ex : xs[k]? = some x) (ey : ys[k]? = some y)
    (fin : ∀ h', IsZipHeld h' z TI TO T true → h'.IsTupleIter i1 l1 (k + 1) → h'.IsTupleIter i2 l2 (k + 1) → IsPair h' s.heap.objs.size x y → (∀ c o, c ≠ z → c ≠ i1 → c ≠ i2 → s.heap.get? c = some o → h'.get? c = some o) → Q (some (.ref s.heap.objs.size)) { s with heap := h' }) :
    wpAny (model prog w) A (pyNext (.ref z)) Q E s := by
  have ty : s.TypeIs (.ref z) "zip" := ⟨_, st.zip, rfl⟩
  unfold pyNext
  refine wpAny_bind (wpAny_attempt (wpAny_callSpecial?_slot (name := Str.ofString "__next__") ty PySem.F.slot_zip_next (wpAny_call_entry PySem.F.slot_zip_next ty PySem.F.entry_zip_next (held_next D st ex ey ?_) (PySem.F.args_zip_next_1 _))))
  intro h' a1 a2 a3 a4 a5
  exact wpAny_pure (fin h' a1 a2 a3 a4 a5)
theorem held_py_stop {Q : Option Value → Shared → Prop} (hh : A.handled = none) (D : ZipApart z TI TO i1 i2 l1 l2) (st : Held s.heap z TI TO T i1 i2 l1 l2 f oT k xs ys) (none1 : xs[k]? = none ∨ ys[k]? = none)
    (fin : ∀ h', (∀ c o, c ≠ z → c ≠ i1 → c ≠ i2 → s.heap.get? c = some o → h'.get? c = some o) → Q none { s with heap := h' }) : wpAny (model prog w) A (pyNext (.ref z)) Q E s := by
  have ty : s.TypeIs (.ref z) "zip" := ⟨_, st.zip, rfl⟩
  unfold pyNext
  refine wpAny_bind (wpAny_attempt (wpAny_callSpecial?_slot (name := Str.ofString "__next__") ty PySem.F.slot_zip_next (wpAny_call_entry PySem.F.slot_zip_next ty PySem.F.entry_zip_next (held_stop hh D st none1 ?_) (PySem.F.args_zip_next_1 _))))
  rintro h' e keep ⟨o, got, cls⟩
  exact wpAny_bind (wpAny_isInstance (T := "StopIteration") (b := true) ⟨o, got, cls⟩ isSubtype_stop (wpAny_pure (fin _ keep)))
/-- where the zip stands after i pairs: nothing out yet, or its last pair still out -/
def ZAt (z TI TO i1 i2 l1 l2 d : Addr) (xs ys : Array Value) (i : Nat) (h : Heap) : Prop :=
  IsPair h TI (.ref i1) (.ref i2) ∧ h.IsTupleIter i1 l1 i ∧ h.IsTupleIter i2 l2 i ∧ h.IsTuple l1 xs ∧ h.IsTuple l2 ys ∧
    ((IsZip h z TI TO .none ∧ ∃ a b, IsPair h TO a b) ∨ ∃ T f oT, IsZipHeld h z TI TO T f ∧ h.get? T = some oT ∧ (T ≠ z ∧ T ≠ i1 ∧ T ≠ i2) ∧ T ≠ d)
theorem ZAt.frame {d : Addr} {h h' : Heap} {i : Nat} (n : z ≠ d ∧ TI ≠ d ∧ TO ≠ d ∧ i1 ≠ d ∧ i2 ≠ d ∧ l1 ≠ d ∧ l2 ≠ d) (st : ZAt z TI TO i1 i2 l1 l2 d xs ys i h) (k : ∀ b o, b ≠ d → h.get? b = some o → h'.get? b = some o) : ZAt z TI TO i1 i2 l1 l2 d xs ys i h' := by
  obtain ⟨n1, n2, n3, n4, n5, n6, n7⟩ := n
  obtain ⟨q1, q2, q3, q4, q5, q6⟩ := st
  refine ⟨k _ _ n2 q1, q2.at fun o => k _ o n4, q3.at fun o => k _ o n5, q4.at fun o => k _ o n6, q5.at fun o => k _ o n7, q6.imp ?_ ?_⟩
  · rintro ⟨w1, a, b, w2⟩
    exact ⟨k _ _ n1 w1, a, b, k _ _ n3 w2⟩
  · rintro ⟨T, f, oT, w1, w2, w3, w4⟩
    exact ⟨T, f, oT, k _ _ n1 w1, k _ _ w4 w2, w3, w4⟩
theorem ZAt.step {d : Addr} {i : Nat} {x y : Value} {Q : Option Value → Shared → Prop} (D : ZipApart z TI TO i1 i2 l1 l2) (st : ZAt z TI TO i1 i2 l1 l2 d xs ys i s.heap) (hd : d < s.heap.objs.size) (ex : xs[i]? = some x) (ey : ys[i]? = some y)
    (fin : ∀ T h', PairAt h' T x y → ZAt z TI TO i1 i2 l1 l2 d xs ys (i + 1) h' → (∀ b o, b ∉ [z, TO, i1, i2] → s.heap.get? b = some o → h'.get? b = some o) → Q (some (.ref T)) { s with heap := h' }) : wpAny (model prog w) A (pyNext (.ref z)) Q E s := by
  obtain ⟨q1, q2, q3, q4, q5, q6⟩ := st
  have big : ∀ {c o}, s.heap.get? c = some o → s.heap.objs.size ≠ c := fun e => Nat.ne_of_gt (Heap.lt_size e)
  have f1 : s.heap.objs.size ≠ i1 := by obtain ⟨_, e, _⟩ := q2; exact big e
  have f2 : s.heap.objs.size ≠ i2 := by obtain ⟨_, e, _⟩ := q3; exact big e
  rcases q6 with ⟨w1, a, b, w2⟩ | ⟨T, f, oT, w1, w2, ⟨w3, w4, w5⟩, w6⟩
  · refine RZ.pyNext_zipT_item D w1 q1 w2 q2 q3 q4 q5 ex ey ?_
    intro h' c1 c2 c3 c4 c5 _ kp
    refine fin _ _ (.inl ⟨_, c5, rfl, _, rfl⟩) ⟨kp _ _ D.TIz D.TITO D.TIi1 D.TIi2 q1, c3, c4, q4.at fun o => kp _ o D.l1z D.l1TO D.l1i1 D.l1i2, q5.at fun o => kp _ o D.l2z D.l2TO D.l2i1 D.l2i2, .inr ⟨_, false, _, c1, c5, ⟨big w1, f1, f2⟩, Nat.ne_of_gt hd⟩⟩ ?_
    intro c o hc e
    simp only [List.mem_cons, List.not_mem_nil, or_false, not_or] at hc
    exact kp c o hc.1 hc.2.1 hc.2.2.1 hc.2.2.2 e
  · refine held_py D ⟨w1, w2, q1, q2, q3, q4, q5⟩ ex ey ?_
    intro h' c1 c3 c4 c5 kp
    refine fin _ _ (.inl ⟨_, c5, rfl, _, rfl⟩) ⟨kp _ _ D.TIz D.TIi1 D.TIi2 q1, c3, c4, q4.at fun o => kp _ o D.l1z D.l1i1 D.l1i2, q5.at fun o => kp _ o D.l2z D.l2i1 D.l2i2, .inr ⟨T, true, oT, c1, kp _ _ w3 w4 w5 w2, ⟨w3, w4, w5⟩, w6⟩⟩ ?_
    intro c o hc e
    simp only [List.mem_cons, List.not_mem_nil, or_false, not_or] at hc
    exact kp c o hc.1 hc.2.2.1 hc.2.2.2 e
theorem ZAt.stop {d : Addr} {i : Nat} {Q : Option Value → Shared → Prop} (hh : A.handled = none) (D : ZipApart z TI TO i1 i2 l1 l2) (st : ZAt z TI TO i1 i2 l1 l2 d xs ys i s.heap) (e : xs[i]? = none ∨ ys[i]? = none)
    (fin : ∀ h', (∀ b o, b ∉ [z, TO, i1, i2] → s.heap.get? b = some o → h'.get? b = some o) → Q none { s with heap := h' }) : wpAny (model prog w) A (pyNext (.ref z)) Q E s := by
  obtain ⟨q1, q2, q3, q4, q5, q6⟩ := st
  rcases q6 with ⟨w1, a, b, w2⟩ | ⟨T, f, oT, w1, w2, ⟨w3, w4, w5⟩, w6⟩
  · refine RZ.pyNext_zipT_end hh D w1 q1 w2 q2 q3 q4 q5 e ?_
    intro h' kp
    refine fin h' ?_
    intro c o hc e
    simp only [List.mem_cons, List.not_mem_nil, or_false, not_or] at hc
    exact kp c o hc.1 hc.2.1 hc.2.2.1 hc.2.2.2 e
  · refine held_py_stop hh D ⟨w1, w2, q1, q2, q3, q4, q5⟩ e ?_
    intro h' kp
    refine fin h' ?_
    intro c o hc e
    simp only [List.mem_cons, List.not_mem_nil, or_false, not_or] at hc
    exact kp c o hc.1 hc.2.2.1 hc.2.2.2 e
def ZNew (z TI TO i1 i2 l1 l2 : Addr) (xs ys : Array Value) (h : Heap) : Prop :=
  (IsZip h z TI TO .none ∧ ∃ a b, IsPair h TO a b) ∧ IsPair h TI (.ref i1) (.ref i2) ∧ h.IsTupleIter i1 l1 0 ∧ h.IsTupleIter i2 l2 0 ∧ h.IsTuple l1 xs ∧ h.IsTuple l2 ys
theorem ZNew.at {h h' : Heap} (ok : ZNew z TI TO i1 i2 l1 l2 xs ys h) (k : ∀ b o, h.get? b = some o → h'.get? b = some o) : ZNew z TI TO i1 i2 l1 l2 xs ys h' := by
  obtain ⟨⟨w1, a, b, w2⟩, q1, q2, q3, q4, q5⟩ := ok
  exact ⟨⟨k _ _ w1, a, b, k _ _ w2⟩, k _ _ q1, q2.at fun o => k _ o, q3.at fun o => k _ o, q4.at fun o => k _ o, q5.at fun o => k _ o⟩
theorem zipT_arg (D : ZipApart z TI TO i1 i2 l1 l2) (e : xs.size = ys.size) : PairArg prog w "zip" z [z, TI, TO, i1, i2, l1, l2] [z, TO, i1, i2] xs.size (fun i k v => xs[i]? = some k ∧ ys[i]? = some v) (ZNew z TI TO i1 i2 l1 l2 xs ys) := by
  constructor
  case type => intro s ok; exact ⟨_, ok.1.1, rfl⟩
  case notDict => decide
  case keep => intro h h' ok k; exact ok.at k
  case there =>
    rintro h ⟨⟨w1, a, b, w2⟩, q1, ⟨o1, q2, _⟩, ⟨o2, q3, _⟩, ⟨o3, q4, _⟩, ⟨o4, q5, _⟩⟩ c hc
    simp only [List.mem_cons, List.not_mem_nil, or_false] at hc
    rcases hc with rfl | rfl | rfl | rfl | rfl | rfl | rfl
    · exact ⟨_, w1⟩
    · exact ⟨_, q1⟩
    · exact ⟨_, w2⟩
    · exact ⟨_, q2⟩
    · exact ⟨_, q3⟩
    · exact ⟨_, q4⟩
    · exact ⟨_, q5⟩
  case sub =>
    intro c hc
    simp only [List.mem_cons, List.not_mem_nil, or_false] at hc ⊢
    rcases hc with rfl | rfl | rfl | rfl <;> simp
  case noKeys => intro A s Q E hh ok fin; exact getAttrOr_miss_zip ok.1.1 rfl rfl rfl zip_no_keys (by decide +kernel) hh fin
  case iter =>
    intro A s d Q E hh ok hd off fin
    simp only [List.mem_cons, List.not_mem_nil, or_false, not_or] at off
    obtain ⟨n1, n2, n3, n4, n5, n6, n7⟩ := off
    refine wpAny_pyIter_zip ok.1.1 (fin z [z, TO, i1, i2] (ZAt z TI TO i1 i2 l1 l2 d xs ys) s.heap s.toks ?_ ⟨ok.2.1, ok.2.2.1, ok.2.2.2.1, ok.2.2.2.2.1, ok.2.2.2.2.2, .inl ok.1⟩ (fun _ _ e => e) fun _ => .inl)
    constructor
    case off =>
      simp only [List.mem_cons, List.not_mem_nil, or_false, not_or]
      exact ⟨n1, n3, n4, n5⟩
    case frame => intro i h h' st k; exact st.frame ⟨Ne.symm n1, Ne.symm n2, Ne.symm n3, Ne.symm n4, Ne.symm n5, Ne.symm n6, Ne.symm n7⟩ k
    case item =>
      intro i s1 Q1 E1 hi st hd1 fin1
      exact st.step D hd1 (Array.getElem?_eq_getElem hi) (Array.getElem?_eq_getElem (by rw [← e]; exact hi)) fun T h' p st' k => fin1 T _ _ h' s1.toks ⟨Array.getElem?_eq_getElem hi, Array.getElem?_eq_getElem (by rw [← e]; exact hi)⟩ p st' k
    case done =>
      intro s1 Q1 E1 st fin1
      exact st.stop hh D (.inl (Array.getElem?_eq_none (Nat.le_refl _))) fun h' k => fin1 h' s1.toks k
end
end MV
set_option Elab.async false
set_option linter.all false
set_option maxRecDepth 100000
set_option maxHeartbeats 1000000
/-! Readings by mirrors: dicts made, asked, enlarged; sets; counting on. -/
namespace MV
open PySem PySem.Spec PyProof.Rows L2
section
variable {X : Cx} {K : Frg} {a b : Expr} {fa fb : Sx} {pos : Pos} {A A' A2 : Wd} {H H' H2 : Hp} {S S' : Sto} {Q : VK} {ρ : Envi} {σ : L2.St} {D : Ends}
theorem push_dic {ps : List (PyData × PyData)} {kvs : List (Key × V)} {p : Addr} (w : Wf K A S H2) (hp : H2 p = none) (r : RpD K A.V H2 kvs ps) : Wf K (A.push p) (S ++ [.dic ps]) (upd H2 p (.dK kvs)) :=
  w.new hp ⟨kvs, upd_same, r.mono (Ext.push hp w).kp⟩
theorem Post.dic {ps : List (PyData × PyData)} {kvs : List (Key × V)} {p : Addr} (h : Post K A H Q (.ok (.f (.dic ps)) S)) (e : Ext A H A H2) (w : Wf K A S H2) (hp : H2 p = none) (r : RpD K A.V H2 kvs ps) : Q (.ref p) (upd H2 p (.dK kvs)) :=
  h _ _ (e.trans (.laid hp)) (push_dic w hp r) (e.free w hp)
/-! ### dict(zip(s, t)) -/
def putAll (ps : List (PyData × PyData)) : List (Key × PyData) → List (PyData × PyData)
  | [] => ps
  | (k, y) :: r => putAll (putD ps k y) r
def keysOf : List PyData → Option (List Key)
  | [] => some []
  | x :: xs => match kOf x, keysOf xs with
    | some k, some ks => some (k :: ks)
    | _, _ => none
theorem keysOf_ok {L : List Addr} : ∀ {ds : List PyData} {ks : List Key} {xs : List V}, keysOf ds = some ks → RpL K L H xs ds → xs = ks.map kV
  | [], _, _, h, .nil => by cases h; rfl
  | d :: ds, ks, _, h, .cons r t => by
    unfold keysOf at h
    split at h
    · rename_i k js h1 h2
      cases h
      rw [List.map_cons, keysOf_ok h2 t, Rp.key r h1]
    · cases h
theorem putAll_ok {L : List Addr} : ∀ {ks : List Key} {xs : List V} {ds : List PyData} {kvs : List (Key × V)} {ps : List (PyData × PyData)}, RpD K L H kvs ps → RpL K L H xs ds → RpD K L H (mergeK kvs (ks.zip xs)) (putAll ps (ks.zip ds))
  | [], _, _, _, _, r, _ => by simpa [mergeK, putAll] using r
  | _ :: _, _, _, _, _, r, .nil => by simpa [mergeK, putAll] using r
  | k :: ks, _, _, _, _, r, .cons q t => by
    rw [List.zip_cons_cons, List.zip_cons_cons]
    exact putAll_ok (ks := ks) (r.put q) t
theorem KV_zip : ∀ {ks : List Key} {xs : List V} {us : List Value}, Vals xs us → KV (ks.zip xs) (ks.zip us)
  | [], _, _, _ => by simp; exact .nil
  | _ :: _, _, _, .nil => by simp; exact .nil
  | k :: ks, _, _, .cons r t => by
    rw [List.zip_cons_cons, List.zip_cons_cons]
    exact .cons ⟨rfl, r⟩ (KV_zip t)
def gDictZip : List Val → Sto → Res Val
  | [.d (.tuple xs), .d (.tuple ys)], S => match keysOf xs with
    | some ks => if xs.length = ys.length then .ok (.f (.dic (putAll [] (ks.zip ys)))) S else .no
    | none => .no
  | _, _ => .no
theorem vals_get : ∀ {ks : List Key} {us : List Value}, Vals (ks.map kV) us → ∀ (i : Nat) (u : Value), us[i]? = some u → ∃ k, ks[i]? = some k ∧ RelV (kV k) u
  | [], _, .nil, i, u, h => by simp at h
  | k :: ks, _, .cons r t, 0, u, h => by simp at h; subst h; exact ⟨k, rfl, r⟩
  | k :: ks, _, .cons r t, i + 1, u, h => by simpa using vals_get t i u (by simpa using h)
theorem eDictZip {e1 e2 : Expr} {f : SA} {p p2 q : Pos} (hc : X.calm = true) (hg : Gl X "dict") (hm : X.mg "dict" = none) (hg2 : Gl X "zip") (hm2 : X.mg "zip" = none) (ha : PA X [e1, e2] (tAr X.K f))
    (hs : starEach [e1, e2] X.env = (false, eval e1 X.env) :: starEach [e2] X.env := by rfl) (hpl : (backTo q (starEach [e2] X.env)).any (·.1) = false := by rfl)
    (hs1 : starEach [.Call (.Name "zip" p2) [e1, e2] [] q] X.env = (false, eval (.Call (.Name "zip" p2) [e1, e2] [] q) X.env) :: starEach [] X.env := by rfl) : PE X (.Call (.Name "dict" p) [.Call (.Name "zip" p2) [e1, e2] [] q] [] pos) (tE X.K (evCall gDictZip f)) := by
  refine ⟨fun pins s σ H Q I h => ?_⟩
  obtain ⟨A, S, ρ, w, env, pq⟩ := h
  refine Call_ (ld_blt I hg hm PyProof.Rows.boot_dict ?_)
  refine PyProof.Rows.callWith_type1 (PyProof.Rows.args_cons ?_ hs1) hs1 rfl
  refine Call_ (ld_blt I hg2 hm2 PyProof.Rows.boot_zip (PyProof.Rows.callWith_type1 (thn (ha.run q pins s σ H (fun xs H1 => ∃ vs S1, Ext A H A H1 ∧ Wf X.K A S1 H1 ∧ RvL X.K A H1 xs vs ∧ Post X.K A H Q (gDictZip vs S1)) I
    ⟨A, S, ρ, w, env, PostA.seq (P := Post X.K A H Q) pq (fun h => h) (fun _ _ h => h) fun vs S1 xs H1 e1 w1 r1 p1 => ⟨vs, S1, e1, w1, r1, p1⟩⟩) fun us s1 ⟨xs, H1, I1, r1, vs, S1, x1, w1, r2, p1⟩ => ?_) hs hpl))
  unfold gDictZip at p1
  split at p1
  case h_2 => exact p1.elim
  rename_i ds es
  split at p1
  case h_2 => exact p1.elim
  rename_i ks hks
  split at p1
  case isFalse => exact p1.elim
  rename_i hl
  cases r2 with | cons r2 r3 =>
  cases r3 with | cons r3 r4 =>
  cases r4
  have r2 : Rp X.K A.V H1 _ (.tuple ds) := r2
  have r3 : Rp X.K A.V H1 _ (.tuple es) := r3
  cases r2 with | tup l2 t2 =>
  cases r3 with | tup l3 t3 =>
  cases r1 with | cons q1 q2 =>
  cases q2 with | cons q2 q3 =>
  cases q3
  cases q1
  cases q2
  obtain ⟨its, rv, p1', z1⟩ := I1.tuple l2.seq
  obtain ⟨its2, rv2, p2', z2⟩ := I1.tuple l3.seq
  have ek := keysOf_ok hks t2
  subst ek
  obtain ⟨o1, ho1, _⟩ := id p1'
  obtain ⟨o2, ho2, _⟩ := id p2'
  have n1 : its.length = ks.length := by rw [← rv.length, List.length_map]
  have n2 : its2.length = its.length := by rw [← rv2.length, t3.length, ← hl, ← t2.length, rv.length]
  refine RZ.call_zipT (show s1.heap.IsTuple _ its.toArray from p1') (show s1.heap.IsTuple _ its2.toArray from p2') fun h' hz hTI hTO h1 h2 hsz hk => PyProof.Rows.args_nil ?_
  have I2 : Inv X pins σ H1 { s1 with heap := h' } := I1.kept (t' := s1.toks) hk
  have arg := zipT_arg (prog := X.prog) (w := X.w) (PySem.W.ktu_apart s1.heap.objs.size _ _ (Heap.lt_size ho1) (Heap.lt_size ho2)) (xs := its.toArray) (ys := its2.toArray) (by simp [n2])
  refine PySem.call_dict_pairs (s := { s1 with heap := h' }) (knd := mixKind X.prog X.w) (kvs := ks.zip its2) arg (I2.ok.hd hc) ⟨⟨hz, _, _, hTO⟩, hTI, h1, h2, (show s1.heap.IsTuple _ its.toArray from p1').at fun o q => hk _ o q, (show s1.heap.IsTuple _ its2.toArray from p2').at fun o q => hk _ o q⟩ ?_ ?_ fun h2 tk hd k2 => ?_
  · refine ⟨by simp [n1, n2], fun i key v ⟨g1, g2⟩ => ?_⟩
    obtain ⟨k, e1, e2⟩ := vals_get rv i key (by simpa using g1)
    refine ⟨k, ?_, kV_is e2⟩
    have g2 : its2[i]? = some v := by simpa using g2
    rw [List.getElem?_zip_eq_some]
    exact ⟨e1, g2⟩
  · rw [List.size_toArray, n1]
    rw [List.length_map] at z1
    exact z1
  · have kall : ∀ b u, s1.heap.get? b = some u → h2.get? b = some u := fun b u e => k2 b u (fun m => by
      have lt := Heap.lt_size e
      simp only [List.mem_cons, List.not_mem_nil, or_false] at m
      rcases m with e' | e' | e' | e' <;> rw [e'] at lt
      · exact Nat.not_lt.mpr (Nat.le_add_right _ _) lt
      · exact Nat.not_lt.mpr (Nat.le_add_right _ _) lt
      · exact Nat.lt_irrefl _ lt
      · exact Nat.not_lt.mpr (Nat.le_add_right _ _) lt) (hk b u e)
    have hm' : (h'.objs.size == sysModules) = false := beq_eq_false_iff_ne.mpr (Nat.ne_of_gt I2.big)
    have rel := KV_zip (ks := ks) rv2
    have z0 : ks.length ≤ sizeLine := by rw [List.length_map] at z1; exact z1
    have hlen : (mergeK [] (ks.zip _)).length ≤ sizeLine := Nat.le_trans (length_mergeK (ks.zip _) []) (by
      rw [List.length_nil, Nat.zero_add, rel.length, List.length_zip, n2, n1, Nat.min_self]
      exact z0)
    have big : s1.heap.objs.size ≤ h'.objs.size := by omega
    refine ⟨.ref h'.objs.size, _, I1.laid (t' := tk) (o := .dK (mergeK [] (ks.zip _))) kall big (show ObjOk X.prog X.w _ _ _ (.dK _) from ⟨hlen, hm', merged [] (ks.zip its2), KV.merge rel .nil, hd⟩), rfl, ?_⟩
    exact p1.dic x1 w1 (I1.hok.fresh big) (putAll_ok .nil t3)
/-! ### {k: v, ..} -/
abbrev SD := Envi → Sto → Res (List (Key × PyData))
def VD (K : Frg) (L : List Addr) (H : Hp) : List (Key × V) → List (Key × PyData) → Prop := Paired fun p q => p.1 = q.1 ∧ Rp K L H p.2 q.2
theorem VD.put {L : List Addr} : ∀ {kvs : List (Key × V)} {qs : List (Key × PyData)} {lvs : List (Key × V)} {ps : List (PyData × PyData)}, VD K L H kvs qs → RpD K L H lvs ps → RpD K L H (mergeK lvs kvs) (putAll ps qs)
  | _, _, _, _, .nil, r => by simpa [mergeK, putAll] using r
  | (k, v) :: kvs, (j, y) :: qs, _, _, .cons ⟨e, q⟩ t, r => by
    have e : k = j := e
    subst e
    exact VD.put (kvs := kvs) (qs := qs) t (r.put q)
theorem VD.mono {L L' : List Addr} {kvs : List (Key × V)} {qs : List (Key × PyData)} (k : Kp L H L' H') (r : VD K L H kvs qs) : VD K L' H' kvs qs := Paired.mapP r fun _ _ h => ⟨h.1, h.2.mono k⟩
def PostD (K : Frg) (A : Wd) (H : Hp) (Q : List (V × V) → Hp → Prop) : Res (List (Key × PyData)) → Prop
  | .ok qs S => ∀ kvs H', Ext A H A H' → Wf K A S H' → VD K A.V H' kvs qs → Q (kvs.map fun kv => (kV kv.1, kv.2)) H'
  | .exc _ _ => False
  | .no => False
theorem PostD.seq {β : Type} {P : Res β → Prop} {Q : List (V × V) → Hp → Prop} {r : Res (List (Key × PyData))} {g : List (Key × PyData) → Sto → Res β} (h : P (r.bind g)) (h0 : P .no → False) (h1 : ∀ e S, P (.exc e S) → False)
    (k : ∀ qs S1 kvs H1, Ext A H A H1 → Wf K A S1 H1 → VD K A.V H1 kvs qs → P (g qs S1) → Q (kvs.map fun kv => (kV kv.1, kv.2)) H1) : PostD K A H Q r := by
  cases r with
  | ok v S1 => exact fun x H1 e w r => k v S1 x H1 e w r h
  | exc e S => exact (h1 _ _ h).elim
  | no => exact (h0 h).elim
def tD (K : Frg) (f : SD) : L2.St → Hp → (List (V × V) → Hp → Prop) → Prop := fun σ H Q => At K σ H fun A ρ S => PostD K A H Q (f ρ S)
def PD (X : Cx) (pos : Pos) (keys : List (Option Expr)) (values : List Expr) (f : SD) : Prop := ∃ trs, PPs X pos keys values trs ∧ ∀ σ H Q, tD X.K f σ H Q → tPairs trs σ H Q
def dNil : SD := fun _ S => .ok [] S
def dCons (fk fv : Sx) (g : SD) : SD := fun ρ S => (fk ρ S).bind fun v S1 => (fv ρ S1).bind fun w S2 => (g ρ S2).bind fun r S3 => match v.th, w.th with
  | .d x, .d y => match kOf x with
    | some k => .ok ((k, y) :: r) S3
    | none => .no
  | _, _ => .no
theorem ddN : PD X pos [] [] dNil := ⟨[], pps_nil, fun σ H Q ⟨A, S, ρ, w, env, p⟩ => p [] H .refl w .nil⟩
theorem ddC {k v : Expr} {ks : List (Option Expr)} {vs : List Expr} {fk fv : Sx} {g : SD} (hk : PE X k (tE X.K fk)) (hv : PE X v (tE X.K fv)) (hr : PD X pos ks vs g) : PD X pos (some k :: ks) (v :: vs) (dCons fk fv g) := by
  obtain ⟨trs, h1, h2⟩ := hr
  refine ⟨_, pps_cons hk hv h1, fun σ H Q ⟨A, S, ρ, w, env, p⟩ => ?_⟩
  refine at_seq (P := PostD X.K A H Q) w env p (fun h => h) (fun _ _ h => h) fun x S1 xv H1 e1 w1 r1 p1 => ?_
  refine at_seq (P := PostD X.K A H Q) w1 (env.mono e1) p1 (fun h => h) (fun _ _ h => h) fun y S2 yv H2 e2 w2 r2 p2 => ?_
  refine h2 _ _ _ ⟨A, S2, ρ, w2, (env.mono e1).mono e2, PostD.seq (P := PostD X.K A H Q) p2 (fun h => h) (fun _ _ h => h) fun qs S3 kvs H3 e3 w3 r3 p3 => ?_⟩
  split at p3
  case h_2 => exact p3.elim
  rename_i a b ha hb
  split at p3
  case h_2 => exact p3.elim
  rename_i k' hk'
  rw [ha] at r1
  rw [hb] at r2
  have r1 : Rp X.K A.V H1 xv a := r1
  have r2 : Rp X.K A.V H2 yv b := r2
  rw [Rp.key r1 hk']
  exact p3 ((k', yv) :: kvs) H3 ((e1.trans e2).trans e3) w3 (.cons ⟨rfl, r2.mono e3.kp⟩ r3)
def evDic (f : SD) : Sx := fun ρ S => (f ρ S).bind fun qs S1 => if qs.length ≤ 15 then .ok (.f (.dic (putAll [] qs))) S1 else .no
theorem eDic {keys : List (Option Expr)} {values : List Expr} {f : SD} (h : PD X pos keys values f) (hall : keys.all (·.isSome) = true := by rfl) (hl : keys.length = values.length := by rfl) (h0 : keys ≠ [] := by exact List.cons_ne_nil _ _)
    (h15 : keys.length ≤ 15 := by decide) : PE X (.Dict keys values pos) (tE X.K (evDic f)) := by
  obtain ⟨trs, h1, h2⟩ := h
  refine PEi (pe_disp h1 hall hl h0 h15) fun σ H Q ⟨A, S, ρ, w, env, p⟩ => fun q hq => ?_
  obtain ⟨wP, kP⟩ := w.protNew (u := .dK []) trivial hq
  refine h2 _ _ _ ⟨A.prot q, S, ρ, wP, env.kx kP, ?_⟩
  dsimp only [evDic] at p
  show PostD X.K (A.prot q) _ _ (f ρ S)
  cases hf : f ρ S with
  | no => rw [hf] at p; exact p
  | exc e S1 => rw [hf] at p; exact p
  | ok qs S1 =>
    rw [hf] at p
    have p : Post X.K A H Q (if qs.length ≤ 15 then .ok (.f (.dic (putAll [] qs))) S1 else .no) := p
    split at p
    case isFalse => exact p.elim
    rename_i hl15
    intro kvs H2 e2 w2 r2
    have nq : q ∉ (A.prot q).A := (w2.pr q (List.mem_cons_self)).1
    have at2 : H2 q = some (.dK []) := e2.keep q _ upd_same nq
    refine ⟨at2, kvs, rfl, by rw [Paired.length r2]; exact hl15, ?_⟩
    obtain ⟨w3, k3⟩ := w2.protUpd (p := q) (u := .dK (mergeK [] kvs)) trivial (List.mem_cons_self)
    have e : Ext A H A (L2.upd H2 q (.dK (mergeK [] kvs))) := ⟨rfl, ⟨[], by simp⟩, fun _ h => .inl h, fun b o hb nb => by
      rw [upd_ne (ne_of_none hb hq)]
      exact e2.keep b o (by rw [upd_ne (ne_of_none hb hq)]; exact hb) nb⟩
    exact p q _ e (w3.protOut (k := .dic _) ⟨_, upd_same, VD.put (r2.mono k3.2) .nil⟩ fun m => w.off hq (Wd.mem.mpr (.inl m))) hq
def evDic0 : Sx := fun _ S => .ok (.f (.dic [])) S
theorem eDic0 : PE X (.Dict [] [] pos) (tE X.K evDic0) := PEi pe_dnewK fun σ H Q ⟨A, S, ρ, w, env, p⟩ => fun q hq => p.dic .refl w hq .nil
/-! ### d.get(k), d.get(k, x) -/
def gGet (v : Val) (vs : List Val) (S : Sto) : Res Val := match asM S v, vs with
  | some ps, [.d x] => match kOf x with
    | some k => .ok (.d ((look ps k).getD .none)) S
    | none => .no
  | some ps, [.d x, .d y] => match kOf x with
    | some k => .ok (.d ((look ps k).getD y)) S
    | none => .no
  | _, _ => .no
theorem mGet (hu : X.A.units + 100 < cLine) : MRul X "dict.get" gGet := by
  intro pins s σ A S H x xs u us v vs Q I wf rv rvs ru rus p
  unfold gGet at p
  split at p
  case h_3 => exact p.elim
  · rename_i ps y hps
    split at p
    case h_2 => exact p.elim
    rename_i k hk
    cases rvs with | cons r1 r2 =>
    cases r2
    obtain ⟨a, kvs, rfl, h1, h2⟩ := asM_ok wf rv hps
    have r1 : Rp X.K A.V H _ y := r1
    have e := Rp.key r1 hk
    subst e
    cases ru
    obtain ⟨u, rfl, ru⟩ := vals1 rus
    refine d_get1 (A := X.A) (o := valV kvs k) (by omega) I (DGet.k h1) ru fun w' s' I' rw' => ⟨_, H, I', rw', ?_⟩
    rcases look_ok (k := k) h2 with ⟨g1, g2⟩ | ⟨d, z, g1, g2, g3⟩
    · rw [g1] at p; rw [g2]; exact p _ H .refl wf .non
    · rw [g1] at p; rw [g2]; exact p _ H .refl wf g3
  · rename_i ps y z hps
    split at p
    case h_2 => exact p.elim
    rename_i k hk
    cases rvs with | cons r1 r2 =>
    cases r2 with | cons r2 r3 =>
    cases r3
    obtain ⟨a, kvs, rfl, h1, h2⟩ := asM_ok wf rv hps
    have r1 : Rp X.K A.V H _ y := r1
    have r2 : Rp X.K A.V H _ z := r2
    have e := Rp.key r1 hk
    subst e
    cases ru
    cases rus with | cons ru ru2 =>
    cases ru2 with | cons ru2 ru3 =>
    cases ru3
    refine d_get2 (A := X.A) (o := valV kvs k) (by omega) I (DGet.k h1) ru ru2 fun w' s' I' rw' => ⟨_, H, I', rw', ?_⟩
    rcases look_ok (k := k) h2 with ⟨g1, g2⟩ | ⟨d, z', g1, g2, g3⟩
    · rw [g1] at p; rw [g2]; exact p _ H .refl wf r2
    · rw [g1] at p; rw [g2]; exact p _ H .refl wf g3
/-! ### pairs as data -/
def pairsOf : List PyData → Option (List (Key × PyData))
  | [] => some []
  | .tuple [x, y] :: r => match kOf x, pairsOf r with
    | some k, some qs => some ((k, y) :: qs)
    | _, _ => none
  | _ => none
theorem pairsOf_ok : ∀ {ds : List PyData} {qs : List (Key × PyData)} {xs : List V}, pairsOf ds = some qs → RpL K A.V H xs ds → ∃ (ps : List Addr) (kvs : List (Key × V)), xs = ps.map V.ref ∧ Paired (fun p kv => SqT K H p [kV kv.1, kv.2]) ps kvs ∧ VD K A.V H kvs qs
  | [], _, _, h, .nil => by cases h; exact ⟨[], [], rfl, .nil, .nil⟩
  | d :: ds, qs, _, h, .cons r t => by
    unfold pairsOf at h
    split at h
    · rename_i h0; cases h0
    · rename_i x y r' h0
      cases h0
      split at h
      · rename_i k js h1 h2
        cases h
        obtain ⟨ps, kvs, e1, e2, e3⟩ := pairsOf_ok h2 t
        cases r with | tup l q =>
        cases q with | cons q1 q2 =>
        cases q2 with | cons q2 q3 =>
        cases q3
        have e := Rp.key q1 h1
        subst e
        subst e1
        exact ⟨_ :: ps, (k, _) :: kvs, rfl, .cons l.seq e2, .cons ⟨rfl, q2⟩ e3⟩
      · cases h
    · cases h
def gDict : List Val → Sto → Res Val
  | [v], S => match asM S v with
    | some ps => .ok (.f (.dic ps)) S
    | none => match (asL S v).bind pairsOf with
      | some qs => .ok (.f (.dic (putAll [] qs))) S
      | none => .no
  | _, _ => .no
theorem bDict (hc : X.calm = true) : BRul X (.type "dict") gDict := by
  intro pins s σ A S H xs us vs Q I wf rvs rus p
  unfold gDict at p
  split at p
  case h_2 => exact p.elim
  cases rvs with | cons r1 r2 =>
  cases r2
  split at p
  · rename_i ps hps
    obtain ⟨a, kvs, rfl, h1, h2⟩ := asM_ok wf r1 hps
    obtain ⟨u, rfl, ru⟩ := vals1 rus
    cases ru
    exact d_copyOf I (.inl h1) fun q s' hq I' => ⟨.ref q, _, I', rfl, p.dic .refl wf hq h2⟩
  · split at p
    case h_2 => exact p.elim
    rename_i qs hqs
    obtain ⟨ds, h1, h2⟩ := Option.bind_eq_some_iff.mp hqs
    obtain ⟨a, ys, rfl, h3, h4⟩ := asL_ok wf r1 h1
    obtain ⟨ps, kvs, e1, e2, e3⟩ := pairsOf_ok h2 h4
    subst e1
    exact call_dictP hc pins s σ H _ us Q I rus ⟨a, ps, kvs, rfl, SqL.of h3, e2, fun q hq => p.dic .refl wf hq (e3.put .nil)⟩
/-! ### tuple(range(..)), list(range(..)) -/
def rgD (a b : Int) : List PyData := (List.range (b - a).toNat).map fun i => PyData.int (a + (i : Nat))
theorem rgV_rp {L : List Addr} (a b : Int) : RpL K L H (rgV a b) (rgD a b) := by
  unfold rgV rgD
  generalize List.range (b - a).toNat = l
  induction l with
  | nil => exact .nil
  | cons i l ih => exact .cons (.int _) ih
def rgOk (a b : Int) : Bool := decide (0 ≤ a ∧ 0 ≤ b ∧ a ≤ 1000000 ∧ b ≤ 1000000)
theorem rgOk_ok {a b : Int} (h : rgOk a b = true) : RgOk a b := by
  have := of_decide_eq_true h
  exact RgOk.of_le (by omega) (by omega) (by omega) (by omega)
def evRg (f : SA) (g : Int → Int → Sto → Res Val) : Sx := fun ρ S => (f ρ S).bind fun vs S1 => match vs with
  | [.d (.int b)] => if rgOk 0 b = true then g 0 b S1 else .no
  | [.d (.int a), .d (.int b)] => if rgOk a b = true then g a b S1 else .no
  | _ => .no
def evTupleRange (f : SA) : Sx := evRg f fun a b S => .ok (.d (.tuple (rgD a b))) S
def evListRange (f : SA) : Sx := evRg f fun a b S => .ok (.f (.lst (rgD a b))) S
section
variable {e1 e2 : Expr} {f1 f2 : Sx} {p p2 q : Pos}
theorem rg1_ok {g : Int → Int → Sto → Res Val} {σ : L2.St} {Q : VK} {R : Int → Int → Hp → Prop} (h : tE K (evRg (aCons f1 aNil) g) σ H Q) (k : ∀ A S a b H1, Ext A H A H1 → Wf K A S H1 → RgOk a b → Post K A H Q (g a b S) → R a b H1) : tRg1 (tE K f1) σ H R := by
  obtain ⟨A, S, ρ, w, env, p⟩ := h
  refine at_seq (P := Post K A H Q) w env (p := (show Post K A H Q ((f1 ρ S).bind _) from ?_)) (g := fun v S1 => match ([v.th] : List Val) with
    | [.d (.int b)] => if rgOk 0 b = true then g 0 b S1 else .no
    | [.d (.int a), .d (.int b)] => if rgOk a b = true then g a b S1 else .no
    | _ => .no) (fun h => h) (fun _ _ h => h) fun v S1 x H1 e1 w1 r1 p1 => ?_
  · dsimp only [evRg, aCons, aNil] at p
    cases hf : f1 ρ S with
    | no => rw [hf] at p; exact p
    | exc e S => rw [hf] at p; exact p
    | ok v S1 => rw [hf] at p; exact p
  · split at p1
    · rename_i b hb
      split at p1
      case isFalse => exact p1.elim
      rename_i hok
      have hb : v.th = .d (.int b) := by simpa using hb
      rw [hb] at r1
      exact ⟨b, Rp.int_inv r1, k A S1 0 b H1 e1 w1 (rgOk_ok hok) p1⟩
    · rename_i a b hb
      simp at hb
    · exact p1.elim
theorem eTupleRange1 (hc : X.calm = true) (hg : Gl X "tuple") (hm : X.mg "tuple" = none) (hg2 : Gl X "range") (hm2 : X.mg "range" = none) (h : PE X e1 (tE X.K f1))
    (n1 : starEach [e1] X.env = (false, eval e1 X.env) :: starEach [] X.env := by rfl) (n2 : starEach [.Call (.Name "range" p2) [e1] [] q] X.env = (false, eval (.Call (.Name "range" p2) [e1] [] q) X.env) :: starEach [] X.env := by rfl) :
    PE X (.Call (.Name "tuple" p) [.Call (.Name "range" p2) [e1] [] q] [] pos) (tE X.K (evTupleRange (aCons f1 aNil))) :=
  PEi (pe_tupRg hc hg hm (prg_1 hg2 hm2 h n1) n2) fun σ H Q h => rg1_ok h fun A S a b H1 e1 w1 ok p => ⟨ok, fun _ hq => p.tup e1 w1 hq (rgV_rp _ _)⟩
theorem eListRange1 (hc : X.calm = true) (hg : Gl X "list") (hm : X.mg "list" = none) (hg2 : Gl X "range") (hm2 : X.mg "range" = none) (h : PE X e1 (tE X.K f1))
    (n1 : starEach [e1] X.env = (false, eval e1 X.env) :: starEach [] X.env := by rfl) (n2 : starEach [.Call (.Name "range" p2) [e1] [] q] X.env = (false, eval (.Call (.Name "range" p2) [e1] [] q) X.env) :: starEach [] X.env := by rfl) :
    PE X (.Call (.Name "list" p) [.Call (.Name "range" p2) [e1] [] q] [] pos) (tE X.K (evListRange (aCons f1 aNil))) :=
  PEi (pe_listRg hc hg hm (prg_1 hg2 hm2 h n1) n2) fun σ H Q h => rg1_ok h fun A S a b H1 e1 w1 ok p => ⟨ok, fun _ hq => p.lst e1 w1 hq (rgV_rp _ _)⟩
end
theorem rg2_ok {f1 f2 : Sx} {g : Int → Int → Sto → Res Val} {σ : L2.St} {Q : VK} {R : Int → Int → Hp → Prop} (h : tE K (evRg (aCons f1 (aCons f2 aNil)) g) σ H Q) (k : ∀ A S a b H1, Ext A H A H1 → Wf K A S H1 → RgOk a b → Post K A H Q (g a b S) → R a b H1) : tRg2 (tE K f1) (tE K f2) σ H R := by
  obtain ⟨A, S, ρ, w, env, p⟩ := h
  refine at_seq (P := Post K A H Q) w env (p := (show Post K A H Q ((f1 ρ S).bind _) from ?_)) (g := fun v S1 => (f2 ρ S1).bind fun u S2 => match ([v.th, u.th] : List Val) with
    | [.d (.int b)] => if rgOk 0 b = true then g 0 b S2 else .no
    | [.d (.int a), .d (.int b)] => if rgOk a b = true then g a b S2 else .no
    | _ => .no) (fun h => h) (fun _ _ h => h) fun v S1 x H1 e1 w1 r1 p1 => ?_
  · dsimp only [evRg, aCons, aNil] at p
    cases hf : f1 ρ S with
    | no => rw [hf] at p; exact p
    | exc e S => rw [hf] at p; exact p
    | ok v S1 =>
      rw [hf] at p
      cases hg : f2 ρ S1 with
      | no => simp only [Res.bind, hg] at p ⊢
              exact p
      | exc e S => simp only [Res.bind, hg] at p ⊢
                   exact p
      | ok u S2 => simp only [Res.bind, hg] at p ⊢
                   exact p
  · refine at_seq (P := Post K A H Q) w1 (env.mono e1) p1 (fun h => h) (fun _ _ h => h) fun u S2 y H2 e2 w2 r2 p2 => ?_
    split at p2
    · rename_i b hb
      simp at hb
    · rename_i a b hb
      split at p2
      case isFalse => exact p2.elim
      rename_i hok
      have hb : v.th = .d (.int a) ∧ u.th = .d (.int b) := by simpa using hb
      rw [hb.1] at r1
      rw [hb.2] at r2
      exact ⟨a, b, Rp.int_inv r1, Rp.int_inv r2, k A S2 a b H2 (e1.trans e2) w2 (rgOk_ok hok) p2⟩
    · exact p2.elim
section
variable {e1 e2 : Expr} {f1 f2 : Sx} {p p2 q : Pos}
theorem eTupleRange2 (hc : X.calm = true) (hg : Gl X "tuple") (hm : X.mg "tuple" = none) (hg2 : Gl X "range") (hm2 : X.mg "range" = none) (h : PE X e1 (tE X.K f1)) (h' : PE X e2 (tE X.K f2))
    (n1 : starEach [e1, e2] X.env = (false, eval e1 X.env) :: starEach [e2] X.env := by rfl) (n0 : starEach [e2] X.env = (false, eval e2 X.env) :: starEach [] X.env := by rfl) (np : (backTo q (starEach [e2] X.env)).any (·.1) = false := by rfl)
    (n2 : starEach [.Call (.Name "range" p2) [e1, e2] [] q] X.env = (false, eval (.Call (.Name "range" p2) [e1, e2] [] q) X.env) :: starEach [] X.env := by rfl) :
    PE X (.Call (.Name "tuple" p) [.Call (.Name "range" p2) [e1, e2] [] q] [] pos) (tE X.K (evTupleRange (aCons f1 (aCons f2 aNil)))) :=
  PEi (pe_tupRg hc hg hm (prg_2 hg2 hm2 h h' n1 n0 np) n2) fun σ H Q h => rg2_ok h fun A S a b H1 e1 w1 ok p => ⟨ok, fun _ hq => p.tup e1 w1 hq (rgV_rp _ _)⟩
end
/-! ### list.remove of any datum -/
open Classical in
noncomputable def gRemoveD (v : Val) (vs : List Val) (S : Sto) : Res Val := match cellL S v, vs with
  | some (n, ds), [.d d] => if SeqAt.shaped (.list ds) = true ∧ SeqAt.shaped d = true ∧ PyData.plainAll ds = true ∧ d.plain = true then match SeqAt.dataPlace ds d with
      | some j => .ok (.d .none) (S.set n (.lst (ds.eraseIdx j)))
      | none => .no
    else .no
  | _, _ => .no
theorem mRemoveD (hu : X.A.units + 100 < cLine) : MRul X "list.remove" gRemoveD := by
  intro pins s σ A S H x xs u us v vs Q I wf rv rvs ru rus p
  unfold gRemoveD at p
  split at p
  case h_2 => exact p.elim
  rename_i n ds d hc
  split at p
  case isFalse => exact p.elim
  rename_i c
  obtain ⟨c1, c2, c3, c4⟩ := c
  split at p
  case h_2 => exact p.elim
  rename_i j hj
  obtain ⟨a, ys, h1, h2, rfl, h3, h4⟩ := cellL_ok wf rv hc
  cases rvs with | cons r1 r2 =>
  cases r2
  have r1 : Rp X.K A.V H _ d := r1
  cases ru
  obtain ⟨u, rfl, ru⟩ := vals1 rus
  obtain ⟨z, its, n', rr, hl', ho⟩ := I.lstM h3
  obtain ⟨as, rx⟩ := Dp.reads I d _ u (Rp.dp d _ (SeqAt.canLay_of_shaped c2) r1) ru
  have cl : PyData.canLayAll0 ds = true := by simpa [PyData.canLay0] using SeqAt.canLay_of_shaped c1
  obtain ⟨bs, rs⟩ := Dp.readsAll I ds ys its (RpL.dp ds ys cl h4) rr
  have dd := SeqAt.depth_of_shaped c2
  refine SeqAt.remove_list_data (vs := its.toArray) ⟨_, ho, rfl, n', rfl⟩ (by simpa using rs) rx c3 c4 (by
    have : min (PyData.depthAll ds) d.depth ≤ 64 := Nat.le_trans (Nat.min_le_right _ _) dd
    omega) hj (by rw [List.size_toArray, ← rr.length]; exact z) ?_
  refine ⟨.non, _, I.lset (its' := its.eraseIdx j) (t' := s.toks) h3 ho ?_ (rr.eraseIdx j) ?_, rfl, p.put wf h1 (h4.eraseIdx j) .non⟩
  · show its.toArray.eraseIdxIfInBounds j = (its.eraseIdx j).toArray
    rw [List.eraseIdxIfInBounds_toArray]
  · exact Nat.le_trans (List.length_eraseIdx_le _ _) z
end
end MV
set_option Elab.async false
set_option linter.all false
set_option maxRecDepth 100000
set_option maxHeartbeats 1000000
/-! Mirrors evaluated: what a mirror's run comes to, step by step. -/
namespace MV
open PySem PySem.Spec PyProof.Rows L2
/-! ### runs -/
@[irreducible] def wp {α : Type} (r : Res α) (Q : α → Sto → Prop) : Prop := match r with
  | .ok a S => Q a S
  | _ => False
section
variable {α β : Type} {Q P : α → Sto → Prop} {S : Sto} {a : α} {r : Res α}
@[simp] theorem wp_ok : wp (.ok a S) Q = Q a S := by unfold wp; rfl
@[simp] theorem wp_no : wp (Res.no : Res α) Q = False := by unfold wp; rfl
@[simp] theorem wp_exc {e : Exn} : wp (Res.exc e S : Res α) Q = False := by unfold wp; rfl
theorem wp_bind {g : α → Sto → Res β} {R : β → Sto → Prop} : wp (r.bind g) R = wp r fun a S => wp (g a S) R := by
  cases r with
  | ok a S => rw [wp_ok]; rfl
  | exc e S => rw [wp_exc]; exact wp_exc
  | no => rw [wp_no]; exact wp_no
theorem wp.mono (h : wp r P) (i : ∀ a S, P a S → Q a S) : wp r Q := by
  cases r with
  | ok a S => rw [wp_ok] at h ⊢; exact i _ _ h
  | exc e S => rw [wp_exc] at h; exact h.elim
  | no => rw [wp_no] at h; exact h.elim
theorem wp.ex (h : wp r Q) : ∃ a S, r = .ok a S ∧ Q a S := by
  cases r with
  | ok a S => rw [wp_ok] at h; exact ⟨_, _, rfl, h⟩
  | exc e S => rw [wp_exc] at h; exact h.elim
  | no => rw [wp_no] at h; exact h.elim
theorem wp_of (h : r = .ok a S) (q : Q a S) : wp r Q := by rw [h, wp_ok]; exact q
@[simp] theorem bind_ok {g : α → Sto → Res β} : Res.bind (.ok a S) g = g a S := (rfl)
@[simp] theorem bind_no {g : α → Sto → Res β} : Res.bind .no g = .no := (rfl)
@[simp] theorem bind_exc {e : Exn} {g : α → Sto → Res β} : Res.bind (.exc e S) g = .exc e S := (rfl)
theorem bind_of {g : α → Sto → Res β} (h : r = .ok a S) : r.bind g = g a S := by rw [h, bind_ok]
@[simp] theorem bind_assoc {γ : Type} {g : α → Sto → Res β} {k : β → Sto → Res γ} : (r.bind g).bind k = r.bind fun a S => (g a S).bind k := by cases r <;> rfl
end
/-! ### each construct at a frame and a store -/
section
variable {ρ : Envi} {S : Sto} {f g h : Sx} {a : SA} {t u : SB} {s s' : Ss} {i j : Nat}
@[simp] theorem th_d {x : PyData} : (Val.d x).th = .d x := (rfl)
@[simp] theorem th_c {n : Nat} : (Val.c n).th = .c n := (rfl)
@[simp] theorem th_z {n : List PyData} : (Val.z n).th = .z n := (rfl)
@[simp] theorem th_f {k : Cell} : (Val.f k).th = .d k.data := (rfl)
@[simp] theorem data_lst {ds : List PyData} : (Cell.lst ds).data = .list ds := (rfl)
@[simp] theorem data_dic {ds : List (PyData × PyData)} : (Cell.dic ds).data = .dict ds := (rfl)
@[simp] theorem e_V : evV i ρ S = (match ρ[i]? with | some (some v) => .ok v S | _ => .no) := (rfl)
@[simp] theorem e_K {x : PyData} : evK x ρ S = .ok (.d x) S := (rfl)
@[simp] theorem e_2 {o : Val → Val → Sto → Res Val} : ev2 o f g ρ S = (f ρ S).bind fun v S1 => (g ρ S1).bind fun w S2 => o v.th w.th S2 := (rfl)
@[simp] theorem e_tst : tst f ρ S = (f ρ S).bind fun v S1 => (match v with | .d (.bool b) => .ok b S1 | _ => .no) := (rfl)
@[simp] theorem e_bAnd : bAnd t u ρ S = (t ρ S).bind fun c S1 => if c = true then u ρ S1 else .ok false S1 := (rfl)
@[simp] theorem e_bOr : bOr t u ρ S = (t ρ S).bind fun c S1 => if c = true then .ok true S1 else u ρ S1 := (rfl)
@[simp] theorem e_bNot : bNot t ρ S = (t ρ S).bind fun c S1 => .ok (!c) S1 := (rfl)
@[simp] theorem e_And : evAnd f g ρ S = (tst f ρ S).bind fun c S1 => if c = true then g ρ S1 else .ok (.d (.bool false)) S1 := (rfl)
@[simp] theorem e_Or : evOr f g ρ S = (tst f ρ S).bind fun c S1 => if c = true then .ok (.d (.bool true)) S1 else g ρ S1 := (rfl)
@[simp] theorem e_Not : evNot f ρ S = (tst f ρ S).bind fun c S1 => .ok (.d (.bool (!c))) S1 := (rfl)
@[simp] theorem e_If : evIf t f g ρ S = (t ρ S).bind fun k S1 => if k = true then f ρ S1 else g ρ S1 := (rfl)
@[simp] theorem e_Un {o : Int → Int} : evUn o f ρ S = (f ρ S).bind fun v S1 => (match v with | .d (.int i) => .ok (.d (.int (o i))) S1 | _ => .no) := (rfl)
@[simp] theorem e_Chain {o o' : Val → Val → Sto → Res Val} : evChain o o' f g h ρ S = (f ρ S).bind fun v S1 => (g ρ S1).bind fun w S2 => (o v.th w.th S2).bind fun z S3 => (match z with
  | .d (.bool true) => (h ρ S3).bind fun u S4 => o' w.th u.th S4
  | .d (.bool false) => .ok z S3
  | _ => .no) := (rfl)
@[simp] theorem e_aNil : aNil ρ S = .ok [] S := (rfl)
@[simp] theorem e_aCons : aCons f a ρ S = (f ρ S).bind fun v S1 => (a ρ S1).bind fun vs S2 => .ok (v.th :: vs) S2 := (rfl)
@[simp] theorem e_Tup : evTup a ρ S = (a ρ S).bind fun vs S1 => (match datas vs with | some ds => if ds.length ≤ 1000 then .ok (.d (.tuple ds)) S1 else .no | none => .no) := (rfl)
@[simp] theorem e_Lst : evLst a ρ S = (a ρ S).bind fun vs S1 => (match datas vs with | some ds => if ds.length ≤ 1000 then .ok (.f (.lst ds)) S1 else .no | none => .no) := (rfl)
@[simp] theorem datas_nil : datas [] = some [] := (rfl)
@[simp] theorem datas_d {x : PyData} {r : List Val} : datas (.d x :: r) = (datas r).map (x :: ·) := (rfl)
@[simp] theorem e_Call {m : List Val → Sto → Res Val} : evCall m a ρ S = (a ρ S).bind m := (rfl)
@[simp] theorem e_sNil : sNil ρ S = .ok (.nx ρ) S := (rfl)
@[simp] theorem e_sSeq : sSeq s s' ρ S = (s ρ S).bind fun w S1 => (match w with | .nx ρ1 => s' ρ1 S1 | .rt v => .ok (.rt v) S1 | .bk ρ1 => .ok (.bk ρ1) S1 | .ct ρ1 => .ok (.ct ρ1) S1) := (rfl)
@[simp] theorem e_sBk : sBk ρ S = .ok (.bk ρ) S := (rfl)
@[simp] theorem e_sCt : sCt ρ S = .ok (.ct ρ) S := (rfl)
@[simp] theorem e_sEx : sEx f ρ S = (f ρ S).bind fun _ S1 => .ok (.nx ρ) S1 := (rfl)
@[simp] theorem e_sRt : sRt f ρ S = (f ρ S).bind fun v S1 => .ok (.rt v) S1 := (rfl)
@[simp] theorem e_sRtN : sRtN ρ S = .ok (.rt (.d .none)) S := (rfl)
@[simp] theorem e_sIf : sIf t s s' ρ S = (t ρ S).bind fun k S1 => if k = true then s ρ S1 else s' ρ S1 := (rfl)
@[simp] theorem e_sSet : sSet i f ρ S = (f ρ S).bind fun v S1 => .ok (.nx (ρ.set i (some v.th))) S1 := (rfl)
@[simp] theorem e_sCell : sCell i f ρ S = (f ρ S).bind fun v S1 => (match v with | .f k => .ok (.nx (ρ.set i (some (.c S1.length)))) (S1 ++ [k]) | _ => .no) := (rfl)
@[simp] theorem e_sAsg {b : Bnd} : sAsg f b ρ S = (f ρ S).bind fun v S1 => (match v.th with | .d x => (match b.go x ρ with | some ρ1 => .ok (.nx ρ1) S1 | none => .no) | _ => .no) := (rfl)
@[simp] theorem e_sPar : sPar i j a ρ S = (a ρ S).bind fun vs S1 => (match vs with | [v, w] => .ok (.nx ((ρ.set i (some v)).set j (some w))) S1 | _ => .no) := (rfl)
@[simp] theorem e_sPar3 {l : Nat} : sPar3 i j l a ρ S = (a ρ S).bind fun vs S1 => (match vs with | [u, v, w] => .ok (.nx (((ρ.set i (some u)).set j (some v)).set l (some w))) S1 | _ => .no) := (rfl)
@[simp] theorem e_sMul {is : List Nat} : sMul is a ρ S = (a ρ S).bind fun vs S1 => if vs.length = is.length ∧ vs.length ≤ 1000 then .ok (.nx (setAll ρ is vs)) S1 else .no := (rfl)
@[simp] theorem e_setAll {v : Val} {is : List Nat} {vs : List Val} : setAll ρ (i :: is) (v :: vs) = setAll (ρ.set i (some v)) is vs := (rfl)
@[simp] theorem e_setAll0 {vs : List Val} : setAll ρ [] vs = ρ := by cases vs <;> rfl
@[simp] theorem e_aCell : aCell f a ρ S = (f ρ S).bind fun v S1 => (match v with | .f k => (a ρ (S1 ++ [k])).bind fun vs S2 => .ok (.c S1.length :: vs) S2 | _ => .no) := (rfl)
@[simp] theorem e_sPut : sPut f g h ρ S = (h ρ S).bind fun x S1 => (f ρ S1).bind fun v S2 => (g ρ S2).bind fun i S3 => (match gPut v.th i.th x.th S3 with | some S4 => .ok (.nx ρ) S4 | none => .no) := (rfl)
@[simp] theorem e_sAug {o : Val → Val → Sto → Res Val} : sAug i o f ρ S = (match ρ[i]? with | some (some v) => (f ρ S).bind fun w S1 => (o v w.th S1).bind fun z S2 => .ok (.nx (ρ.set i (some z.th))) S2 | _ => .no) := (rfl)
@[simp] theorem e_Mt {T : String} {m : Val → List Val → Sto → Res Val} : evMt T m f a ρ S = (f ρ S).bind fun v S1 => if tyB T S1 v.th = true then (a ρ S1).bind fun vs S2 => m v.th vs S2 else .no := (rfl)
theorem mt_eval {T : String} {m : Val → List Val → Sto → Res Val} {v : Val} {S1 : Sto} (hf : f ρ S = .ok v S1) (ht : tyB T S1 v.th = true) : evMt T m f a ρ S = (a ρ S1).bind fun vs S2 => m v.th vs S2 := by
  rw [e_Mt, hf, bind_ok, if_pos ht]
@[simp] theorem e_Isi {T : String} : evIsi T f ρ S = (f ρ S).bind fun v S1 => (match kind S1 v.th with | some t => .ok (.d (.bool (isOf T t))) S1 | none => .no) := (rfl)
@[simp] theorem e_oNo : oNo ρ S = .ok none S := (rfl)
@[simp] theorem e_oYes : oYes f ρ S = (f ρ S).bind fun v S1 => (match v with | .d (.int i) => .ok (some i) S1 | _ => .no) := (rfl)
@[simp] theorem e_Sl {lo hi : SO} : evSl f lo hi ρ S = (f ρ S).bind fun v S1 => (lo ρ S1).bind fun l S2 => (hi ρ S2).bind fun h S3 => gSl v.th l h S3 := (rfl)
@[simp] theorem e_iSeq : iSeq f ρ S = (f ρ S).bind fun v S1 => (match seqOf S1 v.th with | some (_, ds, g) => .ok ⟨ds, g⟩ S1 | none => .no) := (rfl)
@[simp] theorem e_iBy {m : List Val → Option Src} : iBy m a ρ S = (a ρ S).bind fun vs S1 => (match m vs with | some s => .ok s S1 | none => .no) := (rfl)
@[simp] theorem e_iByS {m : Sto → List Val → Option Src} : iByS m a ρ S = (a ρ S).bind fun vs S1 => (match m S1 vs with | some s => .ok s S1 | none => .no) := (rfl)
@[simp] theorem go_name {x : PyData} : (bName i).go x ρ = some (ρ.set i (some (.d x))) := (rfl)
@[simp] theorem go_tup {bs : List Bnd} {ds : List PyData} : (bTup bs).go (.tuple ds) ρ = goL bs ds ρ := (rfl)
@[simp] theorem goL_nil : goL [] [] ρ = some ρ := (rfl)
@[simp] theorem goL_cons {b : Bnd} {bs : List Bnd} {x : PyData} {xs : List PyData} : goL (b :: bs) (x :: xs) ρ = (match b.go x ρ with | some ρ1 => goL bs xs ρ1 | none => none) := (rfl)
@[simp] theorem e_bYes : bYes ρ S = .ok true S := (rfl)
end
/-! ### operators -/
section
variable {S : Sto} {i j : Int} {ds es : List PyData} {n : Nat}
@[simp] theorem o_int {C : Int → Int → Bool} {g : Int → Int → PyData} : gInt C g (.d (.int i)) (.d (.int j)) S = if C i j = true then .ok (.d (g i j)) S else .no := (rfl)
@[simp] theorem o_sub : gSub (.d (.int i)) (.d (.int j)) S = .ok (.d (.int (i - j))) S := (rfl)
@[simp] theorem o_add : gAdd (.d (.int i)) (.d (.int j)) S = .ok (.d (.int (i + j))) S := (rfl)
@[simp] theorem o_div (h1 : 0 < j) (h2 : j < 1152921504606846976) : gDiv (.d (.int i)) (.d (.int j)) S = .ok (.d (.int (i / j))) S := by
  show (if decide _ = true then _ else _) = _
  have h3 : j.natAbs.log2 < 60 := (Nat.log2_lt (by omega)).mpr (by omega)
  rw [decide_eq_true ⟨h1, by omega⟩, if_pos rfl]
@[simp] theorem o_mod (h : 0 < j) : gMod (.d (.int i)) (.d (.int j)) S = .ok (.d (.int (i % j))) S := by
  show (if decide _ = true then _ else _) = _
  rw [decide_eq_true h, if_pos rfl]
theorem mulOk_l (h : -(2 ^ 64) < i ∧ i < 2 ^ 64) : mulOk i j = true := decide_eq_true (.inl (.inl h))
theorem mulOk_r (h : -(2 ^ 64) < j ∧ j < 2 ^ 64) : mulOk i j = true := decide_eq_true (.inl (.inr h))
theorem o_mul (h : mulOk i j = true) : gMul (.d (.int i)) (.d (.int j)) S = .ok (.d (.int (i * j))) S := if_pos h
@[simp] theorem o_mulL (h1 : -18446744073709551616 < i) (h2 : i < 18446744073709551616) : gMul (.d (.int i)) (.d (.int j)) S = .ok (.d (.int (i * j))) S := if_pos (mulOk_l (by omega))
@[simp] theorem o_mulR (h1 : -18446744073709551616 < j) (h2 : j < 18446744073709551616) : gMul (.d (.int i)) (.d (.int j)) S = .ok (.d (.int (i * j))) S := if_pos (mulOk_r (by omega))
@[simp] theorem o_lt : gLt (.d (.int i)) (.d (.int j)) S = .ok (.d (.bool (decide (i < j)))) S := (rfl)
@[simp] theorem o_le : gLe (.d (.int i)) (.d (.int j)) S = .ok (.d (.bool (decide (i ≤ j)))) S := (rfl)
@[simp] theorem o_gt : gGt (.d (.int i)) (.d (.int j)) S = .ok (.d (.bool (decide (j < i)))) S := (rfl)
@[simp] theorem o_ge : gGe (.d (.int i)) (.d (.int j)) S = .ok (.d (.bool (decide (j ≤ i)))) S := (rfl)
@[simp] theorem o_addT (h : ds.length + es.length ≤ sizeLine) : gAdd (.d (.tuple ds)) (.d (.tuple es)) S = .ok (.d (.tuple (ds ++ es))) S := by
  show (if _ then _ else _) = _
  rw [if_pos h]
@[simp] theorem asL_l : asL S (.d (.list ds)) = some ds := (rfl)
@[simp] theorem asL_t : asL S (.d (.tuple ds)) = none := (rfl)
@[simp] theorem asL_i : asL S (.d (.int i)) = none := (rfl)
@[simp] theorem asL_c : asL S (.c n) = (match S[n]? with | some (.lst ds) => some ds | _ => none) := (rfl)
@[simp] theorem asD_d {x : PyData} : asD S (.d x) = some x := (rfl)
@[simp] theorem asD_z : asD S (.z ds) = some (.list ds) := (rfl)
@[simp] theorem asD_c : asD S (.c n) = (match S[n]? with | some (.lst ds) => some (.list ds) | _ => none) := (rfl)
theorem o_addL {v w : Val} (h1 : asL S v = some ds) (h2 : asL S w = some es) (h : ds.length + es.length ≤ sizeLine) : gAdd v w S = .ok (.f (.lst (ds ++ es))) S := by
  unfold gAdd
  split
  · cases h1
  · cases h1
  · cases h1
  · rw [h1, h2]; exact if_pos h
@[simp] theorem seq_t : seqOf S (.d (.tuple ds)) = some (true, ds, []) := (rfl)
@[simp] theorem seq_l : seqOf S (.d (.list ds)) = some (false, ds, []) := (rfl)
@[simp] theorem seq_z : seqOf S (.z ds) = some (false, ds, []) := (rfl)
@[simp] theorem seq_c : seqOf S (.c n) = (match S[n]? with | some (.lst ds) => some (false, ds, [(n, ds)]) | _ => none) := (rfl)
@[simp] theorem asM_t : asM S (.d (.tuple ds)) = none := (rfl)
@[simp] theorem asM_l : asM S (.d (.list ds)) = none := (rfl)
@[simp] theorem asM_z : asM S (.z ds) = none := (rfl)
@[simp] theorem asM_i : asM S (.d (.int i)) = none := (rfl)
@[simp] theorem asM_s {x : Str} : asM S (.d (.str x)) = none := (rfl)
@[simp] theorem asM_c : asM S (.c n) = (match S[n]? with | some (.dic ps) => some ps | _ => none) := (rfl)
/-- == -/
theorem o_eq {v w : Val} {x y : PyData} (h1 : asD S v = some x) (h2 : asD S w = some y) (s1 : SeqAt.shaped x = true) (s2 : SeqAt.shaped y = true) : gEq v w S = .ok (.d (.bool (PyData.eqv x y))) S := by
  unfold gEq
  split
  · cases h1; cases h2
    rw [PyData.eqv]
    rfl
  · rw [h1, h2]
    exact if_pos ⟨s1, s2⟩
theorem o_ne {v w : Val} {x y : PyData} (h1 : asD S v = some x) (h2 : asD S w = some y) (s1 : SeqAt.shaped x = true) (s2 : SeqAt.shaped y = true) : gNe v w S = .ok (.d (.bool (!PyData.eqv x y))) S := by
  unfold gNe
  split
  · cases h1; cases h2
    rw [PyData.eqv]
    rfl
  · rw [h1, h2]
    exact if_pos ⟨s1, s2⟩
@[simp] theorem o_eqS {x y : Str} : gEq (.d (.str x)) (.d (.str y)) S = .ok (.d (.bool (decide (x = y)))) S := (rfl)
@[simp] theorem o_neS {x y : Str} : gNe (.d (.str x)) (.d (.str y)) S = .ok (.d (.bool (!decide (x = y)))) S := (rfl)
theorem shaped_int (i : Int) : SeqAt.shaped (.int i) = true := by simp [SeqAt.shaped, PyData.canLay0, PyData.depth]
theorem shaped_bool (i : Bool) : SeqAt.shaped (.bool i) = true := by simp [SeqAt.shaped, PyData.canLay0, PyData.depth]
theorem shaped_str {i : Str} (h : PyData.strOk i = true) : SeqAt.shaped (.str i) = true := by simp [SeqAt.shaped, PyData.canLay0, PyData.depth, h]
theorem shaped_none : SeqAt.shaped .none = true := by simp [SeqAt.shaped, PyData.canLay0, PyData.depth]
@[simp] theorem o_eqI : gEq (.d (.int i)) (.d (.int j)) S = .ok (.d (.bool (i == j))) S := by
  rw [o_eq (x := .int i) (y := .int j) rfl rfl (shaped_int _) (shaped_int _)]
  simp [PyData.eqv]
@[simp] theorem o_neI : gNe (.d (.int i)) (.d (.int j)) S = .ok (.d (.bool (!(i == j)))) S := by
  rw [o_ne (x := .int i) (y := .int j) rfl rfl (shaped_int _) (shaped_int _)]
  simp [PyData.eqv]
/-- in -/
theorem o_inT {d : PyData} (h : ∀ i, d ≠ .str i ∨ True) (s1 : SeqAt.shaped d = true) (s2 : SeqAt.shaped (.list ds) = true) : isIn S (.d d) (.d (.tuple ds)) = some (ds.any fun z => PyData.eqv z d) := by
  have e : isIn S (.d d) (.d (.tuple ds)) = (if SeqAt.shaped d = true ∧ SeqAt.shaped (.list ds) = true then some (ds.any fun z => PyData.eqv z d) else none) := by
    unfold isIn
    cases d <;> rfl
  rw [e, if_pos ⟨s1, s2⟩]
theorem o_inL {v : Val} {d : PyData} {n : Nat} (h : asD S v = some d) (e : S[n]? = some (.lst ds)) (s1 : SeqAt.shaped d = true) (s2 : SeqAt.shaped (.list ds) = true) : isIn S v (.c n) = some (ds.any fun z => PyData.eqv z d) := by
  have e2 : rowOf S (.c n) = some ds := by
    show (match asD S (.c n) with | some (.list ds) => some ds | _ => none) = _
    rw [asD_c, e]
  have e : isIn S v (.c n) = (if SeqAt.shaped d = true ∧ SeqAt.shaped (.list ds) = true then some (ds.any fun z => PyData.eqv z d) else none) := by
    unfold isIn
    rw [asM_c, e]
    dsimp only
    split
    · rename_i q; cases q
    · rw [h, e2]
  rw [e, if_pos ⟨s1, s2⟩]
@[simp] theorem o_isN {v : Val} : gIsN v (.d .none) S = .ok (.d (.bool (isNone v))) S := by cases v <;> rfl
@[simp] theorem o_notN {v : Val} : gNotN v (.d .none) S = .ok (.d (.bool (!isNone v))) S := by cases v <;> rfl
/-- x[i] -/
@[simp] theorem o_ixT : gIx (.d (.tuple ds)) (.d (.int i)) S = (match atI ds i with | some d => .ok (.d d) S | none => .no) := (rfl)
@[simp] theorem o_ixL : gIx (.d (.list ds)) (.d (.int i)) S = (match atI ds i with | some d => .ok (.d d) S | none => .no) := (rfl)
@[simp] theorem o_ixZ : gIx (.z ds) (.d (.int i)) S = (match atI ds i with | some d => .ok (.d d) S | none => .no) := (rfl)
theorem o_ixC (h : S[n]? = some (.lst ds)) : gIx (.c n) (.d (.int i)) S = (match atI ds i with | some d => .ok (.d d) S | none => .no) := by
  show (match asM S (.c n) with | some ps => _ | none => _) = _
  rw [asM_c, h]
  show gIxS (.c n) i S = _
  unfold gIxS
  rw [seq_c, h]
  all_goals rfl
@[simp] theorem o_slT {lo hi : Option Int} : gSl (.d (.tuple ds)) lo hi S = .ok (.d (.tuple (cutD ds lo hi))) S := (rfl)
@[simp] theorem o_slL {lo hi : Option Int} : gSl (.d (.list ds)) lo hi S = .ok (.f (.lst (cutD ds lo hi))) S := (rfl)
@[simp] theorem o_slZ {lo hi : Option Int} : gSl (.z ds) lo hi S = .ok (.f (.lst (cutD ds lo hi))) S := (rfl)
theorem o_slC {lo hi : Option Int} (h : S[n]? = some (.lst ds)) : gSl (.c n) lo hi S = .ok (.f (.lst (cutD ds lo hi))) S := by
  unfold gSl
  rw [seq_c, h]
end
/-! ### loops -/
section
variable {α : Type} {ρ : Envi} {S : Sto} {s : Src} {bd : Bnd} {b : Ss} {enc : α → PyData}
theorem chk_pos {β : Type} {r : Res β} (h : GOk S s) : chk S s r = r := if_pos h
theorem gok_nil {ds : List PyData} : GOk S ⟨ds, []⟩ := fun p h => by cases h
theorem forGo_wp (I : List α → Envi → Sto → Prop) {xs : List α} {Q : Fw → Sto → Prop} (hg : ∀ pre ρ S, I pre ρ S → GOk S s)
    (step : ∀ pre x post ρ S, xs = pre ++ x :: post → I pre ρ S → ∃ ρ1, bd.go (enc x) ρ = some ρ1 ∧ wp (b ρ1 S) fun w S2 => match w with
      | .nx ρ2 => I (pre ++ [x]) ρ2 S2
      | .ct ρ2 => I (pre ++ [x]) ρ2 S2
      | .bk ρ2 => Q (.nx ρ2) S2
      | .rt v => Q (.rt v) S2)
    (done : ∀ ρ S, I xs ρ S → Q (.nx ρ) S) : ∀ (post pre : List α) (ρ : Envi) (S : Sto), xs = pre ++ post → I pre ρ S → wp (forGo s bd b (post.map enc) ρ S) Q
  | [], pre, ρ, S, e, h => by
    rw [List.append_nil] at e
    subst e
    show wp (chk S s (.ok (.nx ρ) S)) Q
    rw [chk_pos (hg _ _ _ h), wp_ok]
    exact done _ _ h
  | x :: post, pre, ρ, S, e, h => by
    obtain ⟨ρ1, h1, h2⟩ := step pre x post ρ S e h
    show wp (chk S s (match bd.go (enc x) ρ with
      | some ρ1 => (b ρ1 S).bind fun w S2 => match w with
        | .nx ρ2 => forGo s bd b (post.map enc) ρ2 S2
        | .ct ρ2 => forGo s bd b (post.map enc) ρ2 S2
        | .bk ρ2 => .ok (.nx ρ2) S2
        | .rt v => .ok (.rt v) S2
      | none => .no)) Q
    rw [chk_pos (hg _ _ _ h), h1]
    dsimp only
    rw [wp_bind]
    refine h2.mono fun w S2 q => ?_
    cases w with
    | nx ρ2 => exact forGo_wp I hg step done post (pre ++ [x]) ρ2 S2 (by rw [e]; simp) q
    | ct ρ2 => exact forGo_wp I hg step done post (pre ++ [x]) ρ2 S2 (by rw [e]; simp) q
    | bk ρ2 => rw [wp_ok]; exact q
    | rt v => rw [wp_ok]; exact q
/-- a loop over a row of data, by an invariant -/
theorem wp_for (I : List α → Envi → Sto → Prop) {src : SI} {S1 : Sto} (xs : List α) (enc : α → PyData) {Q : Fw → Sto → Prop} (hs : src ρ S = .ok s S1) (hi : s.items = xs.map enc) (hg : ∀ pre ρ S, I pre ρ S → GOk S s) (h0 : I [] ρ S1)
    (step : ∀ pre x post ρ S, xs = pre ++ x :: post → I pre ρ S → ∃ ρ1, bd.go (enc x) ρ = some ρ1 ∧ wp (b ρ1 S) fun w S2 => match w with
      | .nx ρ2 => I (pre ++ [x]) ρ2 S2
      | .ct ρ2 => I (pre ++ [x]) ρ2 S2
      | .bk ρ2 => Q (.nx ρ2) S2
      | .rt v => Q (.rt v) S2)
    (done : ∀ ρ S, I xs ρ S → Q (.nx ρ) S) : wp (sFo src bd b ρ S) Q := by
  show wp ((src ρ S).bind fun s S1 => forGo s bd b s.items ρ S1) Q
  rw [hs, bind_ok, hi]
  exact forGo_wp I hg step done xs [] ρ S1 rfl h0
theorem wp_while {c : SB} {b : Ss} {Q : Fw → Sto → Prop} (I : Nat → Envi → Sto → Prop)
    (step : ∀ m ρ S, I m ρ S → wp (c ρ S) fun k S1 => if k = true then wp (b ρ S1) (fun w S2 => match w with
      | .nx ρ2 => ∃ m', m' < m ∧ I m' ρ2 S2
      | .ct ρ2 => ∃ m', m' < m ∧ I m' ρ2 S2
      | .bk ρ2 => Q (.nx ρ2) S2
      | .rt v => Q (.rt v) S2) else Q (.nx ρ) S1) : ∀ (n m : Nat) (ρ : Envi) (S : Sto), m < n → I m ρ S → wp (sWhN c b n ρ S) Q
  | 0, m, ρ, S, h, _ => absurd h (Nat.not_lt_zero m)
  | n + 1, m, ρ, S, h, i => by
    show wp ((c ρ S).bind fun k S1 => if k = true then (b ρ S1).bind fun w S2 => (match w with
      | .nx ρ1 => sWhN c b n ρ1 S2
      | .ct ρ1 => sWhN c b n ρ1 S2
      | .bk ρ1 => .ok (.nx ρ1) S2
      | .rt v => .ok (.rt v) S2)
    else .ok (.nx ρ) S1) Q
    rw [wp_bind]
    refine (step m ρ S i).mono fun k S1 q => ?_
    cases k with
    | false => rw [if_neg Bool.false_ne_true] at q ⊢; rw [wp_ok]; exact q
    | true =>
      rw [if_pos rfl] at q ⊢
      rw [wp_bind]
      refine q.mono fun w S2 q => ?_
      cases w with
      | nx ρ2 => obtain ⟨m', h1, h2⟩ := q; exact wp_while I step n m' ρ2 S2 (by omega) h2
      | ct ρ2 => obtain ⟨m', h1, h2⟩ := q; exact wp_while I step n m' ρ2 S2 (by omega) h2
      | bk ρ2 => rw [wp_ok]; exact q
      | rt v => rw [wp_ok]; exact q
/-! ### comprehensions -/
theorem cGo_wp {t : SB} {e : Sx} (I : List α → List PyData → Sto → Prop) {xs : List α} {Q : List PyData → Sto → Prop} (hg : ∀ pre acc S, I pre acc S → GOk S s)
    (step : ∀ pre x post acc S, xs = pre ++ x :: post → I pre acc S → ∃ ρ1, bd.go (enc x) ρ = some ρ1 ∧ wp (t ρ1 S) fun k S1 => if k = true then wp (e ρ1 S1) (fun v S2 => ∃ y, v.th = .d y ∧ I (pre ++ [x]) (acc ++ [y]) S2) else I (pre ++ [x]) acc S1)
    (done : ∀ acc S, I xs acc S → Q acc S) : ∀ (post pre : List α) (acc : List PyData) (S : Sto), xs = pre ++ post → I pre acc S → wp (cGo s bd t e ρ (post.map enc) acc S) Q
  | [], pre, acc, S, eq, h => by
    rw [List.append_nil] at eq
    subst eq
    show wp (chk S s (.ok acc S)) Q
    rw [chk_pos (hg _ _ _ h), wp_ok]
    exact done _ _ h
  | x :: post, pre, acc, S, eq, h => by
    obtain ⟨ρ1, h1, h2⟩ := step pre x post acc S eq h
    show wp (chk S s (match bd.go (enc x) ρ with
      | some ρ1 => (t ρ1 S).bind fun k S1 => if k = true then (e ρ1 S1).bind fun v S2 => (match v.th with
          | .d y => cGo s bd t e ρ (post.map enc) (acc ++ [y]) S2
          | _ => .no)
        else cGo s bd t e ρ (post.map enc) acc S1
      | none => .no)) Q
    rw [chk_pos (hg _ _ _ h), h1]
    dsimp only
    rw [wp_bind]
    refine h2.mono fun k S1 q => ?_
    cases k with
    | false => exact cGo_wp I hg step done post (pre ++ [x]) acc S1 (by rw [eq]; simp) q
    | true =>
      rw [if_pos rfl] at q ⊢
      rw [wp_bind]
      refine q.mono fun v S2 ⟨y, hy, q⟩ => ?_
      rw [hy]
      exact cGo_wp I hg step done post (pre ++ [x]) (acc ++ [y]) S2 (by rw [eq]; simp) q
theorem wp_comp {src : SI} {t : SB} {e : Sx} {own : List Nat} {S1 : Sto} {Q : Val → Sto → Prop} (I : List α → List PyData → Sto → Prop) (xs : List α) (enc : α → PyData) (hs : src ρ S = .ok s S1) (hi : s.items = xs.map enc) (hl : xs.length ≤ sizeLine)
    (hg : ∀ pre acc S, I pre acc S → GOk S s) (h0 : I [] [] S1)
    (step : ∀ pre x post acc S, xs = pre ++ x :: post → I pre acc S → ∃ ρ1, bd.go (enc x) (wipeE ρ own) = some ρ1 ∧ wp (t ρ1 S) fun k S1 => if k = true then wp (e ρ1 S1) (fun v S2 => ∃ y, v.th = .d y ∧ I (pre ++ [x]) (acc ++ [y]) S2) else I (pre ++ [x]) acc S1)
    (done : ∀ acc S, I xs acc S → Q (.f (.lst acc)) S) : wp (evComp src bd t e own ρ S) Q := by
  show wp ((src ρ S).bind fun s S1 => if s.items.length ≤ sizeLine then (cGo s bd t e (wipeE ρ own) s.items [] S1).bind fun ds S2 => .ok (.f (.lst ds)) S2 else .no) Q
  rw [hs, bind_ok, hi, if_pos (by rw [List.length_map]; exact hl), wp_bind]
  exact cGo_wp I hg step (fun acc S q => by rw [wp_ok]; exact done acc S q) xs [] [] S1 rfl h0
theorem cGo_pure {t : SB} {e : Sx} (p : α → Bool) (F : α → PyData) (hg : GOk S s) : ∀ (xs : List α) (acc : List PyData)
    (h : ∀ x ∈ xs, ∃ ρ1, bd.go (enc x) ρ = some ρ1 ∧ t ρ1 S = .ok (p x) S ∧ (p x = true → ∃ v, e ρ1 S = .ok v S ∧ v.th = .d (F x))), cGo s bd t e ρ (xs.map enc) acc S = .ok (acc ++ (xs.filter p).map F) S
  | [], acc, h => by
    show chk S s (.ok acc S) = _
    rw [chk_pos hg]; simp
  | x :: xs, acc, h => by
    obtain ⟨ρ1, h1, h2, h3⟩ := h x (by simp)
    show chk S s (match bd.go (enc x) ρ with
      | some ρ1 => (t ρ1 S).bind fun k S1 => if k = true then (e ρ1 S1).bind fun v S2 => (match v.th with
          | .d y => cGo s bd t e ρ (xs.map enc) (acc ++ [y]) S2
          | _ => .no)
        else cGo s bd t e ρ (xs.map enc) acc S1
      | none => .no) = _
    rw [chk_pos hg, h1]
    dsimp only
    rw [h2, bind_ok]
    cases hp : p x with
    | false =>
      rw [if_neg Bool.false_ne_true, cGo_pure p F hg xs acc fun y hy => h y (List.mem_cons_of_mem _ hy)]
      simp [hp]
    | true =>
      obtain ⟨v, h4, h5⟩ := h3 hp
      rw [if_pos rfl, h4, bind_ok, h5]
      dsimp only
      rw [cGo_pure p F hg xs (acc ++ [F x]) fun y hy => h y (List.mem_cons_of_mem _ hy)]
      simp [hp]
theorem comp_pure {src : SI} {t : SB} {e : Sx} {own : List Nat} (xs : List α) (enc : α → PyData) (p : α → Bool) (F : α → PyData) (hs : src ρ S = .ok s S) (hi : s.items = xs.map enc) (hg : GOk S s) (hl : xs.length ≤ sizeLine)
    (h : ∀ x ∈ xs, ∃ ρ1, bd.go (enc x) (wipeE ρ own) = some ρ1 ∧ t ρ1 S = .ok (p x) S ∧ (p x = true → ∃ v, e ρ1 S = .ok v S ∧ v.th = .d (F x))) : evComp src bd t e own ρ S = .ok (.f (.lst ((xs.filter p).map F))) S := by
  show (src ρ S).bind (fun s S1 => if s.items.length ≤ sizeLine then (cGo s bd t e (wipeE ρ own) s.items [] S1).bind fun ds S2 => .ok (Val.f (.lst ds)) S2 else .no) = _
  rw [hs, bind_ok, hi, if_pos (by rw [List.length_map]; exact hl), cGo_pure p F hg xs [] h]
  simp
theorem comp_map {src : SI} {t : SB} {e : Sx} {own : List Nat} (xs : List α) (enc : α → PyData) (F : α → PyData) (hs : src ρ S = .ok s S) (hi : s.items = xs.map enc) (hg : GOk S s) (hl : xs.length ≤ sizeLine)
    (h : ∀ x ∈ xs, ∃ ρ1, bd.go (enc x) (wipeE ρ own) = some ρ1 ∧ t ρ1 S = .ok true S ∧ ∃ v, e ρ1 S = .ok v S ∧ v.th = .d (F x)) : evComp src bd t e own ρ S = .ok (.f (.lst (xs.map F))) S := by
  have z := comp_pure xs enc (fun _ => true) F hs hi hg hl fun x hx => by
    obtain ⟨ρ1, h1, h2, h3⟩ := h x hx
    exact ⟨ρ1, h1, h2, fun _ => h3⟩
  rw [z, List.filter_eq_self.mpr fun _ _ => rfl]
/-! the same, what follows a turn out of sight -/
theorem wp_forK (I : List α → Envi → Sto → Prop) {src : SI} {S1 : Sto} (xs : List α) (enc : α → PyData) {Q : Fw → Sto → Prop} (hs : src ρ S = .ok s S1) (hi : s.items = xs.map enc) (hg : ∀ pre ρ S, I pre ρ S → GOk S s) (h0 : I [] ρ S1)
    (step : ∀ pre x post ρ S, xs = pre ++ x :: post → I pre ρ S → ∃ ρ1, bd.go (enc x) ρ = some ρ1 ∧ ∀ K : Fw → Sto → Prop, (∀ ρ S, I (pre ++ [x]) ρ S → K (.nx ρ) S) → (∀ v S, Q (.rt v) S → K (.rt v) S) → wp (b ρ1 S) K)
    (done : ∀ ρ S, I xs ρ S → Q (.nx ρ) S) : wp (sFo src bd b ρ S) Q :=
  wp_for I xs enc hs hi hg h0 (fun pre x post ρ S e h => by
    obtain ⟨ρ1, h1, h2⟩ := step pre x post ρ S e h
    exact ⟨ρ1, h1, h2 _ (fun _ _ h => h) fun _ _ h => h⟩) done
theorem e_sFo {src : SI} : sFo src bd b ρ S = (src ρ S).bind fun s S1 => forGo s bd b s.items ρ S1 := (rfl)
theorem wp_goK (I : List α → Envi → Sto → Prop) {items : List PyData} (xs : List α) (enc : α → PyData) {Q : Fw → Sto → Prop} (hi : items = xs.map enc) (hg : ∀ pre ρ S, I pre ρ S → GOk S s) (h0 : I [] ρ S)
    (step : ∀ pre x post ρ S, xs = pre ++ x :: post → I pre ρ S → ∃ ρ1, bd.go (enc x) ρ = some ρ1 ∧ ∀ K : Fw → Sto → Prop, (∀ ρ S, I (pre ++ [x]) ρ S → K (.nx ρ) S) → (∀ v S, Q (.rt v) S → K (.rt v) S) → wp (b ρ1 S) K)
    (done : ∀ ρ S, I xs ρ S → Q (.nx ρ) S) : wp (forGo s bd b items ρ S) Q := by
  subst hi
  exact forGo_wp I hg (fun pre x post ρ S e h => by
    obtain ⟨ρ1, h1, h2⟩ := step pre x post ρ S e h
    exact ⟨ρ1, h1, h2 _ (fun _ _ h => h) fun _ _ h => h⟩) done xs [] ρ S rfl h0
theorem wp_forL (I : List α → Envi → Sto → Prop) {src : SI} {S1 : Sto} (xs : List α) (enc : α → PyData) {Q : Fw → Sto → Prop} (hs : src ρ S = .ok s S1) (hi : s.items = xs.map enc) (hg : ∀ pre ρ S, I pre ρ S → GOk S s) (h0 : I [] ρ S1)
    (step : ∀ pre x post ρ S, xs = pre ++ x :: post → I pre ρ S → ∃ ρ1, bd.go (enc x) ρ = some ρ1 ∧ ∀ K : Fw → Sto → Prop, (∀ ρ S, I (pre ++ [x]) ρ S → K (.nx ρ) S) → (∀ ρ S, I (pre ++ [x]) ρ S → K (.ct ρ) S) → (∀ ρ S, Q (.nx ρ) S → K (.bk ρ) S) → (∀ v S, Q (.rt v) S → K (.rt v) S) → wp (b ρ1 S) K)
    (done : ∀ ρ S, I xs ρ S → Q (.nx ρ) S) : wp (sFo src bd b ρ S) Q :=
  wp_for I xs enc hs hi hg h0 (fun pre x post ρ S e h => by
    obtain ⟨ρ1, h1, h2⟩ := step pre x post ρ S e h
    exact ⟨ρ1, h1, h2 _ (fun _ _ h => h) (fun _ _ h => h) (fun _ _ h => h) fun _ _ h => h⟩) done
theorem wp_whileK {c : SB} {b : Ss} {Q : Fw → Sto → Prop} (I : Nat → Envi → Sto → Prop)
    (step : ∀ m ρ S, I m ρ S → ∀ K : Bool → Sto → Prop, (∀ S1, (∀ K2 : Fw → Sto → Prop, (∀ m' ρ2 S2, m' < m → I m' ρ2 S2 → K2 (.nx ρ2) S2) → (∀ v S2, Q (.rt v) S2 → K2 (.rt v) S2) → wp (b ρ S1) K2) → K true S1) → (∀ S1, Q (.nx ρ) S1 → K false S1) → wp (c ρ S) K)
    (n m : Nat) (ρ : Envi) (S : Sto) (h : m < n) (i : I m ρ S) : wp (sWhN c b n ρ S) Q :=
  wp_while I (fun m ρ S h => step m ρ S h _ (fun S1 q => by
    rw [if_pos rfl]
    exact q _ (fun m' ρ2 S2 h1 h2 => ⟨m', h1, h2⟩) fun _ _ h => h) fun S1 q => by
    rw [if_neg Bool.false_ne_true]
    exact q) n m ρ S h i
theorem wp_compK {src : SI} {t : SB} {e : Sx} {own : List Nat} {S1 : Sto} {Q : Val → Sto → Prop} (I : List α → List PyData → Sto → Prop) (xs : List α) (enc : α → PyData) (hs : src ρ S = .ok s S1) (hi : s.items = xs.map enc) (hl : xs.length ≤ sizeLine)
    (hg : ∀ pre acc S, I pre acc S → GOk S s) (h0 : I [] [] S1)
    (step : ∀ pre x post acc S, xs = pre ++ x :: post → I pre acc S → ∃ ρ1, bd.go (enc x) (wipeE ρ own) = some ρ1 ∧ ∀ K : Bool → Sto → Prop,
      (∀ S1, (∀ K2 : Val → Sto → Prop, (∀ v S2 y, v.th = .d y → I (pre ++ [x]) (acc ++ [y]) S2 → K2 v S2) → wp (e ρ1 S1) K2) → K true S1) → (∀ S1, I (pre ++ [x]) acc S1 → K false S1) → wp (t ρ1 S) K)
    (done : ∀ acc S, I xs acc S → Q (.f (.lst acc)) S) : wp (evComp src bd t e own ρ S) Q :=
  wp_comp I xs enc hs hi hl hg h0 (fun pre x post acc S eq h => by
    obtain ⟨ρ1, h1, h2⟩ := step pre x post acc S eq h
    refine ⟨ρ1, h1, h2 _ (fun S1 q => ?_) fun S1 q => ?_⟩
    · rw [if_pos rfl]
      exact q _ fun v S2 y h3 h4 => ⟨y, h3, h4⟩
    · rw [if_neg Bool.false_ne_true]
      exact q) done
end
/-! ### one statement at a time: what follows is out of sight -/
section
variable {f g : Ss} {ρ : Envi} {S : Sto} {Q : Fw → Sto → Prop}
theorem wp_seq (h : ∀ K : Fw → Sto → Prop, (∀ ρ1 S1, wp (g ρ1 S1) Q → K (.nx ρ1) S1) → (∀ v S1, Q (.rt v) S1 → K (.rt v) S1) → wp (f ρ S) K) : wp (sSeq f g ρ S) Q := by
  rw [e_sSeq, wp_bind]
  refine h _ ?_ ?_
  · exact fun _ _ h => h
  · exact fun _ _ h => by rw [wp_ok]; exact h
theorem wp_seqN (h : ∀ K : Fw → Sto → Prop, (∀ ρ1 S1, wp (g ρ1 S1) Q → K (.nx ρ1) S1) → wp (f ρ S) K) : wp (sSeq f g ρ S) Q := by
  rw [e_sSeq, wp_bind]
  refine h _ ?_
  exact fun _ _ h => h
theorem wp_seqL (h : ∀ K : Fw → Sto → Prop, (∀ ρ1 S1, wp (g ρ1 S1) Q → K (.nx ρ1) S1) → (∀ v S1, Q (.rt v) S1 → K (.rt v) S1) → (∀ v S1, Q (.bk v) S1 → K (.bk v) S1) → (∀ v S1, Q (.ct v) S1 → K (.ct v) S1) → wp (f ρ S) K) : wp (sSeq f g ρ S) Q := by
  rw [e_sSeq, wp_bind]
  refine h _ ?_ ?_ ?_ ?_
  · exact fun _ _ h => h
  · exact fun _ _ h => by rw [wp_ok]; exact h
  · exact fun _ _ h => by rw [wp_ok]; exact h
  · exact fun _ _ h => by rw [wp_ok]; exact h
end
/-! ### defs -/
section
variable {np N : Nat} {body : Ss} {vs : List Val} {S : Sto}
theorem wp_fn {Q : Val → Sto → Prop} (hl : vs.length = np) (h : wp (body (vs.map some ++ List.replicate (N - np) none) S) fun w S1 => match w with
    | .nx _ => Q (.d .none) (S1.take S.length)
    | .rt v => wp (out S.length S1 v) Q
    | _ => False) : wp (mkFn np N body vs S) Q := by
  unfold mkFn
  rw [if_pos hl, wp_bind]
  refine h.mono fun w S1 q => ?_
  cases w with
  | nx ρ => rw [wp_ok]; exact q
  | rt v => exact q
  | bk ρ => exact q.elim
  | ct ρ => exact q.elim
theorem fn_eq {v : Val} {S' S1 : Sto} (hl : vs.length = np) (h : body (vs.map some ++ List.replicate (N - np) none) S = .ok (.rt v) S1) (ho : ∀ r : Res Val, out S.length S1 v = r → r = .ok v S') : mkFn np N body vs S = .ok v S' := by
  unfold mkFn
  rw [if_pos hl, h]
  exact ho _ rfl
@[simp] theorem out_d {n : Nat} {x : PyData} : out n S (.d x) = .ok (.d x) (S.take n) := (rfl)
@[simp] theorem out_f {n : Nat} {x : Cell} : out n S (.f x) = .ok (.f x) (S.take n) := (rfl)
theorem wp_out_d {n : Nat} {x : PyData} {Q : Val → Sto → Prop} (h : Q (.d x) (S.take n)) : wp (out n S (.d x)) Q := by rw [out_d, wp_ok]; exact h
theorem wp_out_f {n : Nat} {x : Cell} {Q : Val → Sto → Prop} (h : Q (.f x) (S.take n)) : wp (out n S (.f x)) Q := by rw [out_f, wp_ok]; exact h
theorem out_c {n j : Nat} {k : Cell} (h : ¬ j < n) (e : S[j]? = some k) : out n S (.c j) = .ok (.f k) (S.take n) := by
  show (if j < n then _ else match S[j]? with | some k => _ | none => _) = _
  rw [if_neg h, e]
end
/-! ### the store: what stood before, and a def's own cells -/
section
variable {S L : Sto} {k : Cell} {i : Nat}
@[simp] theorem st_get : (S ++ L)[S.length + i]? = L[i]? := by rw [List.getElem?_append_right (Nat.le_add_right _ _), Nat.add_sub_cancel_left]
@[simp] theorem st_get0 : (S ++ k :: L)[S.length]? = some k := by simp
@[simp] theorem st_set : (S ++ L).set (S.length + i) k = S ++ L.set i k := by simp
@[simp] theorem st_set0 {k' : Cell} : (S ++ k' :: L).set S.length k = S ++ k :: L := by simp
@[simp] theorem st_take : (S ++ L).take S.length = S := by simp
end
end MV
set_option Elab.async false
set_option linter.all false
set_option maxRecDepth 100000
set_option maxHeartbeats 1000000
/-! Data of one form: what the operators say of them. -/
namespace MV
open PySem PySem.Spec PyProof.Rows L2
/-! ### forms -/
structure Enc {α : Type} (enc : α → PyData) (n : Nat) : Prop where
  eqv : ∀ a b, PyData.eqv (enc a) (enc b) = true ↔ a = b
  lay : ∀ a, (enc a).canLay0 = true
  dep : ∀ a, (enc a).depth ≤ n
section
variable {α β : Type} {enc : α → PyData} {en2 : β → PyData} {n m : Nat}
theorem eqv_map (h : ∀ a b, PyData.eqv (enc a) (enc b) = true ↔ a = b) : ∀ xs ys : List α, PyData.eqvAll (xs.map enc) (ys.map enc) = true ↔ xs = ys
  | [], [] => by simp [PyData.eqvAll]
  | [], _ :: _ => by simp [PyData.eqvAll]
  | _ :: _, [] => by simp [PyData.eqvAll]
  | x :: xs, y :: ys => by
    show PyData.eqvAll (enc x :: xs.map enc) (enc y :: ys.map enc) = true ↔ _
    rw [PyData.eqvAll, Bool.and_eq_true, h, eqv_map h xs ys, List.cons.injEq]
theorem lay_map (h : ∀ a, (enc a).canLay0 = true) : ∀ xs : List α, PyData.canLayAll0 (xs.map enc) = true
  | [] => by simp [PyData.canLayAll0]
  | x :: xs => by
    show PyData.canLayAll0 (enc x :: xs.map enc) = true
    rw [PyData.canLayAll0, h, lay_map h xs]; rfl
theorem dep_map (h : ∀ a, (enc a).depth ≤ n) : ∀ xs : List α, PyData.depthAll (xs.map enc) ≤ n
  | [] => by simp [PyData.depthAll]
  | x :: xs => by
    show PyData.depthAll (enc x :: xs.map enc) ≤ n
    rw [PyData.depthAll]
    exact Nat.max_le.mpr ⟨h x, dep_map h xs⟩
theorem encInt : Enc PyData.int 0 := ⟨fun a b => by simp [PyData.eqv], fun a => by simp [PyData.canLay0], fun a => by simp [PyData.depth]⟩
theorem encBool : Enc PyData.bool 0 := ⟨fun a b => by simp [PyData.eqv], fun a => by simp [PyData.canLay0], fun a => by simp [PyData.depth]⟩
theorem Enc.tup (h : Enc enc n) : Enc (fun xs : List α => PyData.tuple (xs.map enc)) (n + 1) := ⟨fun a b => by rw [PyData.eqv]; exact eqv_map h.eqv a b, fun a => by rw [PyData.canLay0]; exact lay_map h.lay a, fun a => by rw [PyData.depth]; have := dep_map h.dep a; omega⟩
theorem Enc.lst (h : Enc enc n) : Enc (fun xs : List α => PyData.list (xs.map enc)) (n + 1) := ⟨fun a b => by rw [PyData.eqv]; exact eqv_map h.eqv a b, fun a => by rw [PyData.canLay0]; exact lay_map h.lay a, fun a => by rw [PyData.depth]; have := dep_map h.dep a; omega⟩
theorem Enc.pair (h : Enc enc n) (k : Enc en2 m) : Enc (fun p : α × β => PyData.tuple [enc p.1, en2 p.2]) (max n m + 1) := ⟨fun a b => by
    rw [PyData.eqv, PyData.eqvAll, PyData.eqvAll, PyData.eqvAll, Bool.and_true, Bool.and_eq_true, h.eqv, k.eqv, Prod.ext_iff], fun a => by
    rw [PyData.canLay0, PyData.canLayAll0, PyData.canLayAll0, PyData.canLayAll0, h.lay, k.lay]; rfl, fun a => by
    rw [PyData.depth, PyData.depthAll, PyData.depthAll, PyData.depthAll]
    have := h.dep a.1
    have := k.dep a.2
    omega⟩
theorem Enc.comp {γ : Type} {f : γ → α} (h : Enc enc n) (hf : ∀ a b, f a = f b → a = b) : Enc (fun c => enc (f c)) n := ⟨fun a b => by rw [h.eqv]; exact ⟨hf a b, fun e => by rw [e]⟩, fun a => h.lay _, fun a => h.dep _⟩
theorem Enc.shaped (h : Enc enc n) (hn : n ≤ 64) (a : α) : SeqAt.shaped (enc a) = true := by
  unfold SeqAt.shaped
  rw [h.lay, Bool.true_and]
  exact decide_eq_true (Nat.le_trans (h.dep a) hn)
theorem Enc.inj (h : Enc enc n) {a b : α} (e : enc a = enc b) : a = b := (h.eqv a b).mp (by rw [e]; exact (h.eqv b b).mpr rfl)
theorem Enc.eqvD (h : Enc enc n) (a b : α) [Decidable (a = b)] : PyData.eqv (enc a) (enc b) = decide (a = b) := by
  rw [Bool.eq_iff_iff, h.eqv, decide_eq_true_iff]
theorem Enc.any (h : Enc enc n) (a : α) (xs : List α) [Decidable (a ∈ xs)] : ((xs.map enc).any fun z => PyData.eqv z (enc a)) = decide (a ∈ xs) := by
  rw [Bool.eq_iff_iff, List.any_eq_true, decide_eq_true_iff]
  constructor
  · rintro ⟨z, hz, e⟩
    obtain ⟨b, hb, rfl⟩ := List.mem_map.mp hz
    rw [(h.eqv b a).mp e] at hb; exact hb
  · exact fun m => ⟨enc a, List.mem_map_of_mem m, (h.eqv a a).mpr rfl⟩
variable {S : Sto}
theorem Enc.eq (h : Enc enc n) (a b : α) [Decidable (a = b)] (hn : n ≤ 64 := by decide) : gEq (.d (enc a)) (.d (enc b)) S = .ok (.d (.bool (decide (a = b)))) S := by
  rw [o_eq (x := enc a) (y := enc b) rfl rfl (h.shaped hn a) (h.shaped hn b), h.eqvD]
theorem Enc.ne (h : Enc enc n) (a b : α) [Decidable (a = b)] (hn : n ≤ 64 := by decide) : gNe (.d (enc a)) (.d (enc b)) S = .ok (.d (.bool (!decide (a = b)))) S := by
  rw [o_ne (x := enc a) (y := enc b) rfl rfl (h.shaped hn a) (h.shaped hn b), h.eqvD]
theorem Enc.inT (h : Enc enc n) (a : α) (xs : List α) [Decidable (a ∈ xs)] (hn : n + 1 ≤ 64 := by decide) : gIn (.d (enc a)) (.d (.tuple (xs.map enc))) S = .ok (.d (.bool (decide (a ∈ xs)))) S := by
  unfold gIn
  rw [o_inT (fun i => .inr trivial) (h.shaped (by omega) a) (h.lst.shaped hn xs), h.any]
theorem Enc.notInT (h : Enc enc n) (a : α) (xs : List α) [Decidable (a ∈ xs)] (hn : n + 1 ≤ 64 := by decide) : gNotIn (.d (enc a)) (.d (.tuple (xs.map enc))) S = .ok (.d (.bool (!decide (a ∈ xs)))) S := by
  unfold gNotIn
  rw [o_inT (fun i => .inr trivial) (h.shaped (by omega) a) (h.lst.shaped hn xs), h.any]
theorem Enc.inC (h : Enc enc n) (a : α) (xs : List α) [Decidable (a ∈ xs)] {i : Nat} (e : S[i]? = some (.lst (xs.map enc))) (hn : n + 1 ≤ 64 := by decide) : gIn (.d (enc a)) (.c i) S = .ok (.d (.bool (decide (a ∈ xs)))) S := by
  unfold gIn
  rw [o_inL rfl e (h.shaped (by omega) a) (h.lst.shaped hn xs), h.any]
theorem Enc.notInC (h : Enc enc n) (a : α) (xs : List α) [Decidable (a ∈ xs)] {i : Nat} (e : S[i]? = some (.lst (xs.map enc))) (hn : n + 1 ≤ 64 := by decide) : gNotIn (.d (enc a)) (.c i) S = .ok (.d (.bool (!decide (a ∈ xs)))) S := by
  unfold gNotIn
  rw [o_inL rfl e (h.shaped (by omega) a) (h.lst.shaped hn xs), h.any]
end
/-! ### webs -/
abbrev dI (ns : List Int) : List PyData := ns.map PyData.int
def pP (p : Int × Int) : PyData := .tuple [.int p.1, .int p.2]
abbrev dP (ps : List (Int × Int)) : List PyData := ps.map pP
abbrev Web := List Int × List (Int × Int)
def pT (ns : List Int) : PyData := .tuple (ns.map .int)
def pTs (ps : List (Int × Int)) : PyData := .tuple (ps.map pP)
def pW (W : Web) : PyData := .tuple [pT W.1, pTs W.2]
theorem encP : Enc pP 1 := encInt.pair encInt
theorem encT : Enc pT 1 := encInt.tup
theorem encTs : Enc pTs 2 := encP.tup
theorem encW : Enc pW 3 := encT.pair encTs
/-! ### built-ins -/
section
variable {S : Sto} {i j : Int} {ds es : List PyData} {n : Nat} {ns : List Int} {bs : List Bool} {b : Bool}
@[simp] theorem g_lenT : g1 fLen [.d (.tuple ds)] S = .ok (.d (.int ds.length)) S := (rfl)
@[simp] theorem g_lenL : g1 fLen [.d (.list ds)] S = .ok (.d (.int ds.length)) S := (rfl)
@[simp] theorem g_lenZ : g1 fLen [.z ds] S = .ok (.d (.int ds.length)) S := (rfl)
theorem g1_of {f : Sto → Val → Option PyData} {v : Val} {d : PyData} (h : f S v = some d) : g1 f [v] S = .ok (.d d) S := by
  unfold g1
  dsimp only
  rw [h]
theorem g_lenC (h : S[n]? = some (.lst ds)) : g1 fLen [.c n] S = .ok (.d (.int ds.length)) S := g1_of (by
  unfold fLen
  dsimp only
  rw [asM_c, seq_c, h])
theorem g_lenD {ps : List (PyData × PyData)} (h : S[n]? = some (.dic ps)) : g1 fLen [.c n] S = .ok (.d (.int ps.length)) S := g1_of (by
  unfold fLen
  dsimp only
  rw [asM_c, h])
@[simp] theorem g_tupT : g1 fTuple [.d (.tuple ds)] S = .ok (.d (.tuple ds)) S := (rfl)
@[simp] theorem g_tupL : g1 fTuple [.d (.list ds)] S = .ok (.d (.tuple ds)) S := (rfl)
@[simp] theorem g_tupZ : g1 fTuple [.z ds] S = .ok (.d (.tuple ds)) S := (rfl)
theorem g_tupC (h : S[n]? = some (.lst ds)) : g1 fTuple [.c n] S = .ok (.d (.tuple ds)) S := g1_of (by
  unfold fTuple
  rw [seq_c, h])
@[simp] theorem g_listT : gList [.d (.tuple ds)] S = .ok (.f (.lst ds)) S := (rfl)
@[simp] theorem g_listL : gList [.d (.list ds)] S = .ok (.f (.lst ds)) S := (rfl)
@[simp] theorem g_intB : g1 fInt [.d (.bool b)] S = .ok (.d (.int (if b = true then 1 else 0))) S := (rfl)
@[simp] theorem g_intI : g1 fInt [.d (.int i)] S = .ok (.d (.int i)) S := (rfl)
@[simp] theorem g_abs : g1 fAbs [.d (.int i)] S = .ok (.d (.int (if i < 0 then -i else i))) S := (rfl)
@[simp] theorem g_min2 : gMin [.d (.int i), .d (.int j)] S = .ok (.d (.int (if j < i then j else i))) S := (rfl)
@[simp] theorem g_max2 : gMax [.d (.int i), .d (.int j)] S = .ok (.d (.int (if j > i then j else i))) S := (rfl)
theorem g_all (h : ds = bs.map .bool) : g1 fAll [.d (.list ds)] S = .ok (.d (.bool (bs.all id))) S := g1_of (by
  subst h
  show (bolsOf (bs.map .bool)).map _ = _
  rw [bolsOf_map]; rfl)
theorem g_any (h : ds = bs.map .bool) : g1 fAny [.d (.list ds)] S = .ok (.d (.bool (bs.any id))) S := g1_of (by
  subst h
  show (bolsOf (bs.map .bool)).map _ = _
  rw [bolsOf_map]; rfl)
theorem o_pow (h : 0 ≤ j ∧ (Builtin.Int.intBits i : Int) * j ≤ 2 ^ 27) : gPow (.d (.int i)) (.d (.int j)) S = .ok (.d (.int (i ^ j.toNat))) S := by
  show (if decide _ = true then _ else _) = _
  rw [decide_eq_true h, if_pos rfl]
@[simp] theorem e_range1 (h1 : -4611686018427387904 ≤ j) (h2 : j < 4611686018427387904) : gRange1 [.d (.int j)] = some ⟨iota 0 j.toNat, []⟩ := if_pos ⟨by omega, by omega⟩
@[simp] theorem e_range2 (h1 : -4611686018427387904 ≤ j) (h2 : j < 4611686018427387904) (h3 : -4611686018427387904 ≤ i) (h4 : i < 4611686018427387904) : gRange2 [.d (.int i), .d (.int j)] = some ⟨iota i (j - i).toNat, []⟩ := if_pos ⟨by omega, by omega, by omega, by omega⟩
theorem iota_map (lo : Int) (n : Nat) : iota lo n = (List.range n).map fun (i : Nat) => PyData.int (lo + i) := rfl
/-! sorted -/
def isort (ns : List Int) : List Int := ns.mergeSort fun a b => decide (a ≤ b)
def pleB (p q : Int × Int) : Bool := decide (p.1 < q.1 ∨ (p.1 = q.1 ∧ p.2 ≤ q.2))
def psort (ps : List (Int × Int)) : List (Int × Int) := ps.mergeSort pleB
theorem sortD_map {α : Type} {enc : α → PyData} {le : α → α → Bool} (h : ∀ a b, PySem.W.dataLe false id (enc a) (enc b) = le a b) (xs : List α) : sortD (xs.map enc) = (xs.mergeSort le).map enc := by
  unfold sortD
  rw [List.map_mergeSort]
  exact fun a _ b _ => (h a b).symm
theorem sorted_of {α : Type} {enc : α → PyData} {le : α → α → Bool} {k : Nat} (E : Enc enc k) (hk : k ≤ 64) (h : ∀ a b, PySem.W.dataLe false id (enc a) (enc b) = le a b) (xs : List α) (al : ∀ a b, PySem.W.alike (enc a) (enc b) = true) (so : PySem.W.Sortable (xs.map enc)) (hl : xs.length ≤ sizeLine)
    {v : Val} {t : Bool} {g : List (Nat × List PyData)} (hv : seqOf S v = some (t, xs.map enc, g)) : gSorted [v] S = .ok (.f (.lst ((xs.mergeSort le).map enc))) S := by
  unfold gSorted
  dsimp only
  rw [hv]
  dsimp only
  rw [if_pos, sortD_map h]
  refine ⟨.of al, so, by rw [List.length_map]; exact hl, fun d hd => ?_⟩
  obtain ⟨a, _, rfl⟩ := List.mem_map.mp hd
  exact E.shaped hk a
theorem sorted_int {v : Val} {t : Bool} {g : List (Nat × List PyData)} (hv : seqOf S v = some (t, dI ns, g)) (hl : ns.length ≤ sizeLine) : gSorted [v] S = .ok (.f (.lst (dI (isort ns)))) S :=
  sorted_of encInt (by decide) (le := fun a b => decide (a ≤ b)) (fun a b => congrFun (congrFun (PySem.W.dataLe_int (β := Int) id) a) b) ns (fun a b => by simp [PySem.W.alike]) (.others fun b => ⟨by simp, by simp⟩) hl hv
theorem sorted_pair {ps : List (Int × Int)} {v : Val} {t : Bool} {g : List (Nat × List PyData)} (hv : seqOf S v = some (t, dP ps, g)) (hl : ps.length ≤ sizeLine) : gSorted [v] S = .ok (.f (.lst (dP (psort ps)))) S :=
  sorted_of encP (by decide) (le := pleB) (fun a b => congrFun (congrFun (PySem.W.dataLe_ii (β := Int × Int) (·.1) (·.2)) a) b) ps (fun a b => by simp [pP, PySem.W.alike, PySem.W.alikeAll]) (.tuples fun b => ⟨_, _, rfl⟩) hl hv
theorem isort_perm (ns : List Int) : (isort ns).Perm ns := List.mergeSort_perm _ _
theorem psort_perm (ns : List (Int × Int)) : (psort ns).Perm ns := List.mergeSort_perm _ _
theorem isort_le (ns : List Int) : (isort ns).Pairwise (· ≤ ·) := by
  have h := List.pairwise_mergeSort (le := fun (a b : Int) => decide (a ≤ b)) (fun a b c h1 h2 => by simp at h1 h2 ⊢; omega) (fun a b => by simp; omega) ns
  exact h.imp fun h => by simpa using h
theorem ple_trans (a b c : Int × Int) (h1 : pleB a b = true) (h2 : pleB b c = true) : pleB a c = true := by
  unfold pleB at *
  simp only [decide_eq_true_eq] at *
  omega
theorem ple_total (a b : Int × Int) : (pleB a b || pleB b a) = true := by
  unfold pleB
  simp only [Bool.or_eq_true, decide_eq_true_eq]
  omega
theorem psort_le (ns : List (Int × Int)) : (psort ns).Pairwise (fun a b => pleB a b = true) := List.pairwise_mergeSort ple_trans ple_total ns
@[simp] theorem mem_isort {a : Int} : a ∈ isort ns ↔ a ∈ ns := (isort_perm ns).mem_iff
@[simp] theorem mem_psort {a : Int × Int} {ps : List (Int × Int)} : a ∈ psort ps ↔ a ∈ ps := (psort_perm ps).mem_iff
@[simp] theorem isort_length : (isort ns).length = ns.length := (isort_perm ns).length_eq
@[simp] theorem psort_length {ps : List (Int × Int)} : (psort ps).length = ps.length := (psort_perm ps).length_eq
/-! rising -/
abbrev Rise (ns : List Int) : Prop := ns.Pairwise (· < ·)
def pLt (p q : Int × Int) : Prop := p.1 < q.1 ∨ (p.1 = q.1 ∧ p.2 < q.2)
abbrev RiseP (ps : List (Int × Int)) : Prop := ps.Pairwise pLt
theorem rise_ext {xs ys : List Int} (hx : Rise xs) (hy : Rise ys) (h : ∀ a, a ∈ xs ↔ a ∈ ys) : xs = ys := by
  refine List.Perm.eq_of_pairwise (le := (· < ·)) (fun a b _ _ h1 h2 => by omega) hx hy ?_
  exact (List.perm_ext_iff_of_nodup (hx.imp fun h => by omega) (hy.imp fun h => by omega)).mpr h
theorem risep_ext {xs ys : List (Int × Int)} (hx : RiseP xs) (hy : RiseP ys) (h : ∀ a, a ∈ xs ↔ a ∈ ys) : xs = ys := by
  refine List.Perm.eq_of_pairwise (le := pLt) (fun a b _ _ h1 h2 => by unfold pLt at h1 h2; omega) hx hy ?_
  exact (List.perm_ext_iff_of_nodup (hx.imp fun h e => by subst e; unfold pLt at h; omega) (hy.imp fun h e => by subst e; unfold pLt at h; omega)).mpr h
theorem isort_rise (h : ns.Nodup) : Rise (isort ns) := by
  have h1 := isort_le ns
  have h2 : (isort ns).Nodup := (isort_perm ns).nodup_iff.mpr h
  exact (h1.and h2).imp fun ⟨h, h'⟩ => by omega
theorem psort_rise {ps : List (Int × Int)} (h : ps.Nodup) : RiseP (psort ps) := by
  have h1 := psort_le ps
  have h2 : (psort ps).Nodup := (psort_perm ps).nodup_iff.mpr h
  refine (h1.and h2).imp fun {a b} ⟨h, h'⟩ => ?_
  unfold pleB at h
  unfold pLt
  simp only [decide_eq_true_eq] at h
  rcases h with h | h
  · exact .inl h
  · refine .inr ⟨h.1, ?_⟩
    have : a.2 ≠ b.2 := fun e => h' (Prod.ext h.1 e)
    omega
theorem Rise.nodup (h : Rise ns) : ns.Nodup := h.imp fun h => by omega
theorem isort_of_rise (h : Rise ns) : isort ns = ns := rise_ext (isort_rise h.nodup) h fun a => mem_isort
theorem RiseP.nodup {ps : List (Int × Int)} (h : RiseP ps) : ps.Nodup := h.imp fun h e => by subst e; unfold pLt at h; omega
theorem psort_of_rise {ps : List (Int × Int)} (h : RiseP ps) : psort ps = ps := risep_ext (psort_rise h.nodup) h fun a => mem_psort
end
/-! ### what a web is -/
structure IsWeb (W : Web) : Prop where
  rp : Rise W.1
  rt : RiseP W.2
  lo : ∀ a ∈ W.1, 0 ≤ a ∧ a ≤ 99
  lt : ∀ t ∈ W.2, t.1 < t.2 ∧ t.1 ∈ W.1 ∧ t.2 ∈ W.1
/-! ### stores into cells, cuts -/
section
variable {S : Sto} {n : Nat} {ds : List PyData}
theorem put_c {k : Int} {j : Nat} {y : PyData} (h : S[n]? = some (.lst ds)) (hk : ixN ds.length k = some j) : gPut (.c n) (.d (.int k)) (.d y) S = some (S.set n (.lst (ds.set j y))) := by
  unfold gPut
  dsimp only
  rw [h]
  dsimp only
  rw [hk]
theorem put_dic {ps : List (PyData × PyData)} {z y : PyData} {k : Key} (h : S[n]? = some (.dic ps)) (hz : kOf z = some k) (hl : ps.length < sizeLine) : gPut (.c n) (.d z) (.d y) S = some (S.set n (.dic (putD ps k y))) := by
  unfold gPut
  dsimp only
  rw [h]
  dsimp only
  rw [hz]
  dsimp only
  rw [if_pos hl]
theorem app_c {y : PyData} (h : S[n]? = some (.lst ds)) (hl : ds.length < sizeLine) : gAppend (.c n) [.d y] S = .ok (.d .none) (S.set n (.lst (ds ++ [y]))) := by
  unfold gAppend cellL
  dsimp only
  rw [h]
  dsimp only
  rw [if_pos hl]
theorem ext_c {w : Val} {es : List PyData} (h : S[n]? = some (.lst ds)) (hw : asL S w = some es) (hl : ds.length + es.length ≤ sizeLine) : gExtend (.c n) [w] S = .ok (.d .none) (S.set n (.lst (ds ++ es))) := by
  unfold gExtend cellL
  dsimp only
  rw [h]
  dsimp only
  rw [hw]
  dsimp only
  rw [if_pos hl]
theorem ty_list (h : S[n]? = some (.lst ds)) : tyB "list" S (.c n) = true := by
  unfold tyB
  rw [asL_c, h]
  rfl
theorem ty_dict {ps : List (PyData × PyData)} (h : S[n]? = some (.dic ps)) : tyB "dict" S (.c n) = true := by
  unfold tyB
  rw [asM_c, h]
  simp
theorem cut_to {k : Int} (h : 0 ≤ k) : cutD ds none (some k) = ds.take k.toNat := by
  unfold cutD
  rw [HT.sIx_none]
  show (ds.drop 0).take ((if k < 0 then _ else min k.toNat ds.length) - 0) = _
  rw [if_neg (by omega), List.drop_zero, Nat.sub_zero]
  rcases Nat.le_total k.toNat ds.length with q | q
  · rw [Nat.min_eq_left q]
  · rw [Nat.min_eq_right q, List.take_length, List.take_of_length_le q]
theorem cut_from {k : Int} (h : 0 ≤ k) : cutD ds (some k) none = ds.drop k.toNat := by
  unfold cutD
  rw [HT.sIx_none]
  show (ds.drop (if k < 0 then _ else min k.toNat ds.length)).take (ds.length - (if k < 0 then _ else min k.toNat ds.length)) = _
  rw [if_neg (by omega)]
  rcases Nat.le_total k.toNat ds.length with q | q
  · rw [Nat.min_eq_left q, List.take_of_length_le (by simp)]
  · rw [Nat.min_eq_right q, List.drop_length, List.drop_of_length_le q]; simp
theorem at_nat {α : Type} {xs : List α} {i : Int} {x : α} (h : 0 ≤ i) (e : xs[i.toNat]? = some x) : atI xs i = some x := by
  have hl := (List.getElem?_eq_some_iff.mp e).1
  unfold atI ixN
  rw [if_pos h, if_pos (by omega)]
  exact e
theorem st_upd {k k' : Cell} (h : S[n]? = some k) : (S.set n k')[n]? = some k' := by
  rw [List.getElem?_set_self (List.getElem?_eq_some_iff.mp h).1]
theorem st_self {k : Cell} (h : S[n]? = some k) : S.set n k = S := by
  obtain ⟨h1, h2⟩ := List.getElem?_eq_some_iff.mp h
  rw [← h2, List.set_getElem_self]
theorem st_lt {k : Cell} (h : S[n]? = some k) : n < S.length := (List.getElem?_eq_some_iff.mp h).1
end
/-! a cell of three -/
section
variable {S : Sto} {n : Nat} {x y z w : PyData}
@[simp] theorem at_0 {r : List PyData} : atI (x :: r) 0 = some x := by
  unfold atI ixN
  rw [if_pos (by decide), if_pos (by simp only [List.length_cons]; omega)]; rfl
@[simp] theorem at_1 {r : List PyData} : atI (x :: y :: r) 1 = some y := by
  unfold atI ixN
  rw [if_pos (by decide), if_pos (by simp only [List.length_cons]; omega)]; rfl
@[simp] theorem at_2 {r : List PyData} : atI (x :: y :: z :: r) 2 = some z := by
  unfold atI ixN
  rw [if_pos (by decide), if_pos (by simp only [List.length_cons]; omega)]; rfl
theorem put3_0 (h : S[n]? = some (.lst [x, y, z])) : gPut (.c n) (.d (.int 0)) (.d w) S = some (S.set n (.lst [w, y, z])) := put_c (j := 0) h rfl
theorem put3_1 (h : S[n]? = some (.lst [x, y, z])) : gPut (.c n) (.d (.int 1)) (.d w) S = some (S.set n (.lst [x, w, z])) := put_c (j := 1) h rfl
theorem put3_2 (h : S[n]? = some (.lst [x, y, z])) : gPut (.c n) (.d (.int 2)) (.d w) S = some (S.set n (.lst [x, y, w])) := put_c (j := 2) h rfl
theorem log_lt {m : Int} (hm : 0 < m) (hm2 : m < 2 ^ 60) : m.natAbs.log2 < 9000 := by
  have h3 : m.natAbs.log2 < 60 := (Nat.log2_lt (by omega)).mpr (by omega)
  omega
theorem mod_in (x m : Int) (h : 0 < m) : 0 ≤ x % m ∧ x % m < m := ⟨Int.emod_nonneg _ (by omega), Int.emod_lt_of_pos _ h⟩
end
/-! a list that is written, at an open place; a cell among a def's own -/
theorem at_ex {xs : List Int} {r : Int} (h0 : 0 ≤ r) (h1 : r < xs.length) : ∃ y ∈ xs, atI (dI xs) r = some (.int y) := by
  have h : r.toNat < xs.length := by omega
  exact ⟨xs[r.toNat], List.getElem_mem h, at_nat h0 (by rw [List.getElem?_map, List.getElem?_eq_getElem h]; rfl)⟩
section
variable {S L : Sto} {n : Nat} {x : Cell}
@[simp] theorem st_take2 : ((S.set n x) ++ L).take S.length = S.set n x := List.take_left' (by simp)
@[simp] theorem st_take3 : (S.set n x).take S.length = S.set n x := List.take_of_length_le (by simp)
theorem st_own (h : n < S.length) : ((S.set n x) ++ L)[n]? = some x := by
  rw [List.getElem?_append_left (by simpa using h), List.getElem?_set_self h]
theorem st_loc {k : Cell} : ((S.set n x) ++ k :: L)[S.length]? = some k := by
  rw [List.getElem?_append_right (by simp)]; simp
theorem st_loc1 {k k1 : Cell} : ((S.set n x) ++ k1 :: k :: L)[S.length + 1]? = some k := by
  rw [List.getElem?_append_right (by simp)]; simp
theorem st_set_own {y : Cell} (h : n < S.length) : ((S.set n x) ++ L).set n y = (S.set n y) ++ L := by
  rw [List.set_append_left _ _ (by simpa using h), List.set_set]
theorem st_set_loc {k y : Cell} : ((S.set n x) ++ k :: L).set S.length y = (S.set n x) ++ y :: L := by
  rw [List.set_append_right _ _ (by simp)]; simp
theorem st_set_loc1 {k y k1 : Cell} : ((S.set n x) ++ k1 :: k :: L).set (S.length + 1) y = (S.set n x) ++ k1 :: y :: L := by
  rw [List.set_append_right _ _ (by simp)]; simp
end
/-! webs, rows of numbers, of pairs: read -/
section
variable {S : Sto} {W : Web} {ns : List Int} {ps : List (Int × Int)} {p : Int × Int} {ρ : Envi} {bs : List Bnd}
@[simp] theorem ix_W0 : gIx (.d (pW W)) (.d (.int 0)) S = .ok (.d (pT W.1)) S := (rfl)
@[simp] theorem ix_W1 : gIx (.d (pW W)) (.d (.int 1)) S = .ok (.d (pTs W.2)) S := (rfl)
@[simp] theorem ix_P0 : gIx (.d (pP p)) (.d (.int 0)) S = .ok (.d (.int p.1)) S := (rfl)
@[simp] theorem ix_P1 : gIx (.d (pP p)) (.d (.int 1)) S = .ok (.d (.int p.2)) S := (rfl)
@[simp] theorem seq_T : seqOf S (.d (pT ns)) = some (true, dI ns, []) := (rfl)
@[simp] theorem seq_Ts : seqOf S (.d (pTs ps)) = some (true, dP ps, []) := (rfl)
@[simp] theorem seq_W : seqOf S (.d (pW W)) = some (true, [pT W.1, pTs W.2], []) := (rfl)
@[simp] theorem seq_P : seqOf S (.d (pP p)) = some (true, [.int p.1, .int p.2], []) := (rfl)
@[simp] theorem len_T : g1 fLen [.d (pT ns)] S = .ok (.d (.int ns.length)) S := by show g1 fLen [.d (.tuple (dI ns))] S = _; simp
@[simp] theorem len_Ts : g1 fLen [.d (pTs ps)] S = .ok (.d (.int ps.length)) S := by show g1 fLen [.d (.tuple (dP ps))] S = _; simp
@[simp] theorem len_P : g1 fLen [.d (pP p)] S = .ok (.d (.int 2)) S := (rfl)
@[simp] theorem len_W : g1 fLen [.d (pW W)] S = .ok (.d (.int 2)) S := (rfl)
@[simp] theorem list_T : gList [.d (pT ns)] S = .ok (.f (.lst (dI ns))) S := (rfl)
@[simp] theorem tup_T : g1 fTuple [.d (pT ns)] S = .ok (.d (pT ns)) S := (rfl)
@[simp] theorem tup_I : g1 fTuple [.d (.list (dI ns))] S = .ok (.d (pT ns)) S := (rfl)
@[simp] theorem tup_Ps : g1 fTuple [.d (.list (dP ps))] S = .ok (.d (pTs ps)) S := (rfl)
theorem fold_T : PyData.tuple (dI ns) = pT ns := rfl
theorem fold_Ts : PyData.tuple (dP ps) = pTs ps := rfl
theorem fold_W {ns : List Int} : PyData.tuple [pT ns, pTs ps] = pW (ns, ps) := rfl
theorem fold_P {a b : Int} : PyData.tuple [.int a, .int b] = pP (a, b) := rfl
@[simp] theorem go_P : (bTup bs).go (pP p) ρ = goL bs [.int p.1, .int p.2] ρ := (rfl)
@[simp] theorem go_W : (bTup bs).go (pW W) ρ = goL bs [pT W.1, pTs W.2] ρ := (rfl)
end
/-! ### texts of things -/
theorem repr_of {S : Sto} {v : Val} {d : PyData} (h : asD S v = some d) (c : d.canLay0 = true ∧ d.showable = true ∧ d.shown.length ≤ sizeLine ∧ d.depth ≤ 64) : gRepr [v] S = .ok (.d (.str d.shown)) S := by
  unfold gRepr
  dsimp only
  rw [h]
  dsimp only
  rw [if_pos c]
/-- data whose text is short: whole numbers near 0, tuples of these -/
def Txt (d : PyData) (n : Nat) : Prop := d.showable = true ∧ d.leavesShort 13 = true ∧ d.bulk ≤ n
theorem txt_int {i : Int} (h : -1000 ≤ i ∧ i ≤ 1000) : Txt (.int i) 0 := by
  have key : ∀ k : Fin 2001, decide (((PyData.int ((k.val : Int) - 1000)).shown).length ≤ 13) = true := by decide +kernel
  have e := key ⟨(i + 1000).toNat, by omega⟩
  have e2 : (((i + 1000).toNat : Nat) : Int) - 1000 = i := by omega
  dsimp only at e
  rw [e2] at e
  refine ⟨?_, ?_, by simp [PyData.bulk]⟩
  · rw [PyData.showable]
    have h3 : i.natAbs.log2 < 1920 := by
      rcases Nat.eq_zero_or_pos i.natAbs with z | z
      · rw [z]; decide
      · exact (Nat.log2_lt (by omega)).mpr (Nat.lt_of_lt_of_le (show i.natAbs < 2 ^ 10 by omega) (Nat.pow_le_pow_right (by decide) (by decide)))
    exact decide_eq_true h3
  · rw [PyData.leavesShort]; exact e
theorem txt_all {α : Type} {enc : α → PyData} {n : Nat} : ∀ {xs : List α}, (∀ x ∈ xs, Txt (enc x) n) → PyData.showableAll (xs.map enc) = true ∧ PyData.leavesShortAll 13 (xs.map enc) = true ∧ PyData.bulkAll (xs.map enc) ≤ (n + 1) * xs.length
  | [], _ => by simp [PyData.showableAll, PyData.leavesShortAll, PyData.bulkAll]
  | x :: xs, h => by
    obtain ⟨a1, a2, a3⟩ := h x (by simp)
    obtain ⟨b1, b2, b3⟩ := txt_all (xs := xs) fun y hy => h y (List.mem_cons_of_mem _ hy)
    simp only [List.map_cons, PyData.showableAll, PyData.leavesShortAll, PyData.bulkAll, a1, a2, b1, b2, List.length_cons, Nat.mul_add]
    exact ⟨rfl, rfl, by omega⟩
theorem txt_tup {α : Type} {enc : α → PyData} {n : Nat} {xs : List α} (h : ∀ x ∈ xs, Txt (enc x) n) : Txt (.tuple (xs.map enc)) ((n + 1) * xs.length) := by
  obtain ⟨a1, a2, a3⟩ := txt_all h
  exact ⟨by rw [PyData.showable]; exact a1, by rw [PyData.leavesShort]; exact a2, by rw [PyData.bulk]; exact a3⟩
theorem txt_P {p : Int × Int} (h : -1000 ≤ p.1 ∧ p.1 ≤ 1000) (k : -1000 ≤ p.2 ∧ p.2 ≤ 1000) : Txt (pP p) 2 := by
  have z := txt_tup (enc := PyData.int) (n := 0) (xs := [p.1, p.2]) (fun x hx => by
    simp at hx
    rcases hx with rfl | rfl
    · exact txt_int h
    · exact txt_int k)
  exact z
theorem Txt.fits {d : PyData} {n : Nat} (h : Txt d n) (hn : n ≤ 2 ^ 20) : d.showable = true ∧ d.shown.length ≤ sizeLine := ⟨h.1, PyData.shown_fits_bulk (B := 13) (by decide) (by decide) h.2.1 (Nat.le_trans h.2.2 hn)⟩
theorem repr_Ts {S : Sto} {ps : List (Int × Int)} (h : ∀ p ∈ ps, (-1000 ≤ p.1 ∧ p.1 ≤ 1000) ∧ -1000 ≤ p.2 ∧ p.2 ≤ 1000) (hl : ps.length ≤ 1000) : gRepr [.d (pTs ps)] S = .ok (.d (.str (pTs ps).shown)) S := by
  have t : Txt (pTs ps) _ := txt_tup (enc := pP) (n := 2) fun p hp => txt_P (h p hp).1 (h p hp).2
  have f := t.fits (by omega)
  exact repr_of rfl ⟨encTs.lay ps, f.1, f.2, Nat.le_trans (encTs.dep ps) (by decide)⟩
theorem map_erase {α β : Type} (f : α → β) : ∀ (xs : List α) (k : Nat), (xs.map f).eraseIdx k = (xs.eraseIdx k).map f
  | [], _ => by simp
  | _ :: _, 0 => by simp
  | x :: xs, k + 1 => by simp [map_erase f xs k]
theorem erase_perm {α : Type} : ∀ (xs : List α) (k : Nat) (h : k < xs.length), (xs[k] :: xs.eraseIdx k).Perm xs
  | [], _, h => absurd h (Nat.not_lt_zero _)
  | _ :: _, 0, _ => by simp
  | x :: xs, k + 1, h => by
    have q := erase_perm xs k (by simpa using h)
    simp
    exact (List.Perm.swap _ _ _).trans (q.cons x)
end MV
set_option Elab.async false
set_option linter.all false
set_option maxRecDepth 100000
set_option maxHeartbeats 1000000
/-! The constructs of MvL evaluated. -/
namespace MV
open PySem PySem.Spec PyProof.Rows L2
section
variable {ρ : Envi} {S : Sto} {f g : Sx} {a : SA} {d : SD}
@[simp] theorem e_dNil : dNil ρ S = .ok [] S := (rfl)
@[simp] theorem e_dCons : dCons f g d ρ S = (f ρ S).bind fun v S1 => (g ρ S1).bind fun w S2 => (d ρ S2).bind fun r S3 => (match v.th, w.th with
  | .d x, .d y => match kOf x with
    | some k => .ok ((k, y) :: r) S3
    | none => .no
  | _, _ => .no) := (rfl)
@[simp] theorem e_Dic : evDic d ρ S = (d ρ S).bind fun qs S1 => if qs.length ≤ 15 then .ok (.f (.dic (putAll [] qs))) S1 else .no := (rfl)
@[simp] theorem e_Dic0 : evDic0 ρ S = .ok (.f (.dic [])) S := (rfl)
@[simp] theorem e_TupleRange : evTupleRange a ρ S = (a ρ S).bind fun vs S1 => (match vs with
  | [.d (.int b)] => if rgOk 0 b = true then .ok (.d (.tuple (rgD 0 b))) S1 else .no
  | [.d (.int a), .d (.int b)] => if rgOk a b = true then .ok (.d (.tuple (rgD a b))) S1 else .no
  | _ => .no) := (rfl)
@[simp] theorem e_ListRange : evListRange a ρ S = (a ρ S).bind fun vs S1 => (match vs with
  | [.d (.int b)] => if rgOk 0 b = true then .ok (.f (.lst (rgD 0 b))) S1 else .no
  | [.d (.int a), .d (.int b)] => if rgOk a b = true then .ok (.f (.lst (rgD a b))) S1 else .no
  | _ => .no) := (rfl)
@[simp] theorem kOf_int {i : Int} : kOf (.int i) = some (.inl i) := (rfl)
@[simp] theorem kD_inl {i : Int} : kD (.inl i) = .int i := (rfl)
end
/-! ### dicts whose keys are whole numbers -/
/-- a dict of numbers to data, as its entries stand -/
def dK (kvs : List (Int × PyData)) : List (PyData × PyData) := kvs.map fun p => (.int p.1, p.2)
theorem look_dK (k : Int) : ∀ kvs : List (Int × PyData), look (dK kvs) (.inl k) = (kvs.find? fun p => p.1 == k).map (·.2)
  | [] => rfl
  | (j, y) :: r => by
    have ih := look_dK k r
    unfold dK look at ih ⊢
    rw [List.map_cons, List.find?_cons, List.find?_cons]
    by_cases e : j = k
    · subst e; simp [kOf]
    · have e1 : decide (kOf (PyData.int j) = some (Sum.inl k)) = false := by
        refine decide_eq_false fun h => e ?_
        rw [kOf_int] at h; exact Sum.inl.inj (Option.some.inj h)
      have e2 : (j == k) = false := by simpa using e
      simp only [e1, e2]
      exact ih
def hasK (kvs : List (Int × PyData)) (k : Int) : Bool := kvs.any fun p => p.1 == k
def putK1 (kvs : List (Int × PyData)) (k : Int) (y : PyData) : List (Int × PyData) := if hasK kvs k = true then kvs.map fun p => if p.1 = k then (p.1, y) else p else kvs ++ [(k, y)]
theorem look_has (k : Int) (kvs : List (Int × PyData)) : (look (dK kvs) (.inl k)).isSome = hasK kvs k := by
  rw [look_dK]
  unfold hasK
  induction kvs with
  | nil => rfl
  | cons p r ih =>
    rw [List.find?_cons, List.any_cons]
    cases h : p.1 == k with
    | true => simp
    | false => simpa using ih
theorem putD_dK (k : Int) (y : PyData) (kvs : List (Int × PyData)) : putD (dK kvs) (.inl k) y = dK (putK1 kvs k y) := by
  unfold putD putK1
  rw [look_has]
  split
  · unfold dK
    rw [List.map_map, List.map_map]
    refine List.map_congr_left fun p _ => ?_
    simp only [Function.comp, kOf_int, Option.some.injEq, Sum.inl.injEq]
    split <;> rfl
  · unfold dK
    rw [List.map_append]
    rfl
theorem putAll_dK : ∀ (ks : List Int) (ys : List PyData) (kvs : List (Int × PyData)), putAll (dK kvs) ((ks.map Sum.inl).zip ys) = dK ((ks.zip ys).foldl (fun acc p => putK1 acc p.1 p.2) kvs)
  | [], _, _ => by simp [putAll]
  | _ :: _, [], _ => by simp [putAll]
  | k :: ks, y :: ys, kvs => by
    rw [List.map_cons, List.zip_cons_cons, List.zip_cons_cons, List.foldl_cons]
    show putAll (putD (dK kvs) (.inl k) y) _ = _
    rw [putD_dK]
    exact putAll_dK ks ys _
theorem keysOf_int : ∀ ks : List Int, keysOf (dI ks) = some (ks.map Sum.inl)
  | [] => rfl
  | k :: ks => by
    have ih := keysOf_int ks
    unfold dI at ih ⊢
    rw [List.map_cons]
    unfold keysOf
    rw [kOf_int, ih]; rfl
/-- keys met once each: the dict's entries are the pairs -/
theorem fold_put : ∀ (ks : List Int) (ys : List PyData) (kvs : List (Int × PyData)), (kvs.map (·.1) ++ ks).Nodup → ks.length = ys.length → (ks.zip ys).foldl (fun acc p => putK1 acc p.1 p.2) kvs = kvs ++ ks.zip ys
  | [], _, kvs, _, _ => by simp
  | _ :: _, [], _, _, h => by simp at h
  | k :: ks, y :: ys, kvs, nd, hl => by
    rw [List.zip_cons_cons, List.foldl_cons]
    have no : hasK kvs k = false := by
      rw [List.nodup_append] at nd
      unfold hasK
      rw [List.any_eq_false]
      intro p hp e
      exact nd.2.2 p.1 (List.mem_map_of_mem hp) k (by simp) (by simpa using e)
    have e : putK1 kvs k y = kvs ++ [(k, y)] := by unfold putK1; rw [no]; rfl
    rw [e, fold_put ks ys (kvs ++ [(k, y)]) (by simpa [List.append_assoc] using nd) (by simpa using hl)]
    simp
theorem dictZip_int {S : Sto} {ks : List Int} {ys : List PyData} (nd : ks.Nodup) (hl : ks.length = ys.length) : gDictZip [.d (.tuple (dI ks)), .d (.tuple ys)] S = .ok (.f (.dic (dK (ks.zip ys)))) S := by
  unfold gDictZip
  have hl' : (dI ks).length = ys.length := by unfold dI; rw [List.length_map]; exact hl
  have e := putAll_dK ks ys []
  rw [fold_put ks ys [] (by simpa using nd) hl] at e
  simp only [keysOf_int, hl', if_true]
  rw [show (putAll [] ((ks.map Sum.inl).zip ys)) = putAll (dK []) ((ks.map Sum.inl).zip ys) from rfl, e]
  rfl
/-- asked by the i-th key -/
theorem look_zip {ks : List Int} {ys : List PyData} (nd : ks.Nodup) {i : Nat} {k : Int} {y : PyData} (hk : ks[i]? = some k) (hy : ys[i]? = some y) : look (dK (ks.zip ys)) (.inl k) = some y := by
  rw [look_dK]
  induction ks generalizing ys i with
  | nil => simp at hk
  | cons j ks ih =>
    cases ys with
    | nil => simp at hy
    | cons z ys =>
      rw [List.zip_cons_cons, List.find?_cons]
      cases i with
      | zero =>
        simp at hk hy
        subst hk hy
        simp
      | succ i =>
        have hk : ks[i]? = some k := by simpa using hk
        have hy : ys[i]? = some y := by simpa using hy
        have ne : (j == k) = false := by
          have := (List.nodup_cons.mp nd).1
          simp only [beq_eq_false_iff_ne]
          intro e
          exact this (e ▸ List.mem_of_getElem? hk)
        simp only [ne]
        exact ih (List.nodup_cons.mp nd).2 hk hy
end MV
set_option Elab.async false
set_option linter.all false
set_option maxRecDepth 100000
namespace Z
open PySem PySem.Spec PyProof.Rows L2 MV
def topS (i : Nat) : Stmt := PySem.Challenge.pw_drawnweb_k12_alike.main.body.getD i (.Pass ⟨0, 0, 0, 0⟩)
abbrev s_is_tied : Stmt := topS 1
abbrev n_is_tied : List Str := ["web", "a", "b"]
noncomputable def y_is_tied : Ss := sRt (ev2 gIn (evTup (aCons (evCall gMin (aCons (evV 1) (aCons (evV 2) (aNil)))) (aCons (evCall gMax (aCons (evV 1) (aCons (evV 2) (aNil)))) (aNil)))) (ev2
      gIx (evV 0) (evK (.int 1))))
noncomputable def m_is_tied : Fn := mkFn 3 3 y_is_tied
abbrev s_fits : Stmt := topS 2
abbrev n_fits : List Str := ["one", "other", "names", "name", "place", "ahead", "called"]
noncomputable def y_fits : Ss := sSeq (sSet 4 (ev2 gIx (ev2 gIx (evV 0) (evK (.int 0))) (evCall (g1 fLen) (aCons (evV 2) (aNil))))) (sSeq (sFo (iByS gZip (aCons (ev2 gIx (evV 0) (evK (.int
      0))) (aCons (evV 2) (aNil)))) (bTup [bName 5, bName 6]) (sIf (bOr (tst (ev2 gEq (evV 6) (evV 3))) (tst (ev2 gNe (evCall m_is_tied (aCons (evV 0) (aCons
      (evV 5) (aCons (evV 4) (aNil))))) (evCall m_is_tied (aCons (evV 1) (aCons (evV 6) (aCons (evV 3) (aNil)))))))) (sRt (evK (.bool false))) (sNil))) (sRt
      (evK (.bool true))))
noncomputable def m_fits : Fn := mkFn 4 7 y_fits
abbrev s_named_on : Stmt := topS 3
abbrev n_named_on : List Str := ["one", "other", "names", "name", "found"]
noncomputable def y_named_on (self : Fn) : Ss := sSeq (sIf (tst (ev2 gEq (evCall (g1 fLen) (aCons (evV 2) (aNil))) (evCall (g1 fLen) (aCons (ev2 gIx (evV 0) (evK (.int 0))) (aNil))))) (sRt (evV 2)) (sNil))
      (sSeq (sFo (iSeq (ev2 gIx (evV 1) (evK (.int 0)))) (bName 3) (sIf (tst (evCall m_fits (aCons (evV 0) (aCons (evV 1) (aCons (evV 2) (aCons (evV 3) (aNil)))))))
      (sSeq (sSet 4 (evCall self (aCons (evV 0) (aCons (evV 1) (aCons (ev2 gAdd (evV 2) (evTup (aCons (evV 3) (aNil)))) (aNil)))))) (sIf (tst (ev2 gNotN (evV
      4) (evK .none))) (sRt (evV 4)) (sNil))) (sNil))) (sRt (evK .none)))
noncomputable def m_named_on : Nat → Fn
  | 0 => fun _ _ => .no
  | n + 1 => mkFn 3 5 (y_named_on (m_named_on n))
abbrev s_alike : Stmt := topS 4
abbrev n_alike : List Str := ["one", "other"]
noncomputable def y_alike : Ss := sSeq (sIf (bOr (tst (ev2 gNe (evCall (g1 fLen) (aCons (ev2 gIx (evV 0) (evK (.int 0))) (aNil))) (evCall (g1 fLen) (aCons (ev2 gIx (evV 1) (evK (.int 0)))
      (aNil))))) (tst (ev2 gNe (evCall (g1 fLen) (aCons (ev2 gIx (evV 0) (evK (.int 1))) (aNil))) (evCall (g1 fLen) (aCons (ev2 gIx (evV 1) (evK (.int 1)))
      (aNil)))))) (sRt (evK .none)) (sNil)) (sRt (evCall (m_named_on 40) (aCons (evV 0) (aCons (evV 1) (aCons (evTup (aNil)) (aNil))))))
noncomputable def m_alike : Fn := mkFn 2 2 y_alike
abbrev s_l_hand_of : Stmt := topS 6
abbrev n_l_hand_of : List Str := ["_law_script", "_law_k", "_law_cell", "_law_great"]
noncomputable def y_l_hand_of : Ss := sSeq (sSet 2 (evK (.int 0))) (sSeq (sIf (tst (ev2 gLt (evV 1) (evCall (g1 fLen) (aCons (evV 0) (aNil))))) (sSet 2 (ev2 gIx (evV 0) (evV 1))) (sNil)) (sSeq
      (sSet 3 (ev2 gMul (ev2 gMod (evV 2) (ev2 gMul (ev2 gMul (ev2 gMul (ev2 gPow (evK (.int 10)) (evK (.int 60))) (ev2 gPow (evK (.int 10)) (evK (.int 60))))
      (ev2 gPow (evK (.int 10)) (evK (.int 60)))) (ev2 gPow (evK (.int 10)) (evK (.int 60))))) (evCall (g1 fInt) (aCons (ev2 gGe (evV 2) (ev2 gPow (evK (.int
      10)) (evK (.int 18)))) (aNil))))) (sRt (evLst (aCons (evV 3) (aCons (ev2 gMod (ev2 gAdd (ev2 gAdd (ev2 gMod (evV 2) (evK (.int 2305843009213693951)))
      (ev2 gMul (evK (.int 7919)) (evV 1))) (evK (.int 3))) (evK (.int 2305843009213693951))) (aCons (evK (.int 0)) (aNil))))))))
noncomputable def m_l_hand_of : Fn := mkFn 2 4 y_l_hand_of
abbrev s_l_take : Stmt := topS 7
abbrev n_l_take : List Str := ["_law_hand", "_law_many", "_law_mixed", "_law_digit"]
noncomputable def y_l_take : Ss := sSeq (sIf (tst (ev2 gGt (ev2 gIx (evV 0) (evK (.int 0))) (evK (.int 0)))) (sSeq (sSet 3 (ev2 gMod (ev2 gIx (evV 0) (evK (.int 0))) (evV 1))) (sSeq (sPut
      (evV 0) (evK (.int 0)) (ev2 gDiv (ev2 gIx (evV 0) (evK (.int 0))) (evV 1))) (sRt (evV 3)))) (sNil)) (sSeq (sPut (evV 0) (evK (.int 2)) (ev2 gAdd (ev2
      gIx (evV 0) (evK (.int 2))) (evK (.int 1)))) (sSeq (sSet 2 (ev2 gMod (ev2 gMul (ev2 gAdd (ev2 gAdd (ev2 gIx (evV 0) (evK (.int 1))) (ev2 gMul (ev2 gMul
      (evK (.int 65537)) (ev2 gIx (evV 0) (evK (.int 2)))) (ev2 gIx (evV 0) (evK (.int 2))))) (evK (.int 11))) (evK (.int 48271))) (evK (.int 2305843009213693921))))
      (sSeq (sSet 2 (ev2 gMod (ev2 gMul (evV 2) (ev2 gAdd (ev2 gMod (evV 2) (evK (.int 1000003))) (ev2 gMul (evK (.int 99991)) (ev2 gIx (evV 0) (evK (.int 2))))))
      (evK (.int 2305843009213693907)))) (sRt (ev2 gMod (ev2 gAdd (ev2 gDiv (evV 2) (evK (.int 97))) (ev2 gDiv (evV 2) (evK (.int 1000033)))) (evV 1))))))
noncomputable def m_l_take : Fn := mkFn 2 4 y_l_take
abbrev s_l_pick : Stmt := topS 8
abbrev n_l_pick : List Str := ["_law_hand", "_law_some"]
noncomputable def y_l_pick : Ss := sRt (ev2 gIx (evV 1) (evCall m_l_take (aCons (evV 0) (aCons (evCall (g1 fLen) (aCons (evV 1) (aNil))) (aNil)))))
noncomputable def m_l_pick : Fn := mkFn 2 2 y_l_pick
abbrev s_l_shuffled : Stmt := topS 9
abbrev n_l_shuffled : List Str := ["_law_hand", "_law_some", "_law_found", "_law_one"]
noncomputable def y_l_shuffled : Ss := sSeq (sCell 2 (evLst (aNil))) (sSeq (sFo (iSeq (evV 1)) (bName 3) (sEx (evMt "list" gInsert (evV 2) (aCons (evCall m_l_take (aCons (evV 0) (aCons (ev2 gAdd
      (evCall (g1 fLen) (aCons (evV 2) (aNil))) (evK (.int 1))) (aNil)))) (aCons (evV 3) (aNil)))))) (sRt (evV 2)))
noncomputable def m_l_shuffled : Fn := mkFn 2 4 y_l_shuffled
abbrev s_l_places_drawn : Stmt := topS 10
abbrev n_l_places_drawn : List Str := ["_law_hand", "_law_many", "_law_stride", "_law_first", "_law_k"]
noncomputable def y_l_places_drawn : Ss := sSeq (sSet 2 (evCall m_l_pick (aCons (evV 0) (aCons (evLst (aCons (evK (.int 1)) (aCons (evK (.int 1)) (aCons (evK (.int 3)) (aCons (evK (.int 4)) (aNil))))))
      (aNil))))) (sSeq (sSet 3 (evCall m_l_pick (aCons (evV 0) (aCons (evLst (aCons (evK (.int 0)) (aCons (evK (.int 0)) (aCons (evK (.int 5)) (aCons (ev2 gSub
      (evK (.int 99)) (ev2 gMul (evV 2) (evCall gMax (aCons (evK (.int 0)) (aCons (ev2 gSub (evV 1) (evK (.int 1))) (aNil)))))) (aNil)))))) (aNil))))) (sRt
      (evCall (g1 fTuple) (aCons (evComp (iBy gRange1 (aCons (evV 1) (aNil))) (bName 4) (bYes) (ev2 gAdd (evV 3) (ev2 gMul (evV 2) (evV 4))) [4]) (aNil)))))
noncomputable def m_l_places_drawn : Fn := mkFn 2 5 y_l_places_drawn
abbrev s_l_web_drawn : Stmt := topS 11
abbrev n_l_web_drawn : List Str := ["_law_hand", "_law_many", "_law_most", "_law_b", "_law_ties", "_law_sparse", "_law_tree", "_law_places", "_law_a"]
noncomputable def y_l_web_drawn : Ss := sSeq (sMul [5, 6] (aCons (evCall m_l_pick (aCons (evV 0) (aCons (evLst (aCons (evK (.int 2)) (aCons (evK (.int 3)) (aCons (evK (.int 5)) (aCons (evK (.int
      9)) (aCons (evK (.int 1)) (aNil))))))) (aNil)))) (aCons (ev2 gEq (evCall m_l_take (aCons (evV 0) (aCons (evK (.int 2)) (aNil)))) (evK (.int 0))) (aNil))))
      (sSeq (sMul [7, 4] (aCons (evCall m_l_places_drawn (aCons (evV 0) (aCons (evV 1) (aNil)))) (aCell (evLst (aNil)) (aNil)))) (sSeq (sFo (iBy gRange2 (aCons
      (evK (.int 1)) (aCons (evV 1) (aNil)))) (bName 3) (sSeq (sIf (tst (evV 6)) (sEx (evMt "list" gAppend (evV 4) (aCons (evTup (aCons (evCall m_l_take (aCons
      (evV 0) (aCons (evV 3) (aNil)))) (aCons (evV 3) (aNil)))) (aNil)))) (sNil)) (sEx (evMt "list" gExtend (evV 4) (aCons (evComp (iBy gRange1 (aCons (evV
      3) (aNil))) (bName 8) (bAnd (tst (ev2 gNotIn (evTup (aCons (evV 8) (aCons (evV 3) (aNil)))) (evV 4))) (tst (ev2 gEq (evCall m_l_take (aCons (evV 0) (aCons
      (evV 5) (aNil)))) (evK (.int 0))))) (evTup (aCons (evV 8) (aCons (evV 3) (aNil)))) [8]) (aNil)))))) (sSeq (sCell 4 (evCall gSorted (aCons (evSl (evCall
      m_l_shuffled (aCons (evV 0) (aCons (evV 4) (aNil)))) (oNo) (oYes (evV 2))) (aNil)))) (sRt (evTup (aCons (evV 7) (aCons (evCall (g1 fTuple) (aCons (evComp
      (iSeq (evV 4)) (bTup [bName 8, bName 3]) (bYes) (evTup (aCons (ev2 gIx (evV 7) (evV 8)) (aCons (ev2 gIx (evV 7) (evV 3)) (aNil)))) [8, 3]) (aNil))) (aNil))))))))
noncomputable def m_l_web_drawn : Fn := mkFn 3 9 y_l_web_drawn
abbrev s_l_ring_ties : Stmt := topS 12
abbrev n_l_ring_ties : List Str := ["_law_first", "_law_many", "_law_k"]
noncomputable def y_l_ring_ties : Ss := sRt (ev2 gAdd (evComp (iBy gRange1 (aCons (ev2 gSub (evV 1) (evK (.int 1))) (aNil))) (bName 2) (bYes) (evTup (aCons (ev2 gAdd (evV 0) (evV 2)) (aCons (ev2
      gAdd (ev2 gAdd (evV 0) (evV 2)) (evK (.int 1))) (aNil)))) [2]) (evLst (aCons (evTup (aCons (evV 0) (aCons (ev2 gSub (ev2 gAdd (evV 0) (evV 1)) (evK (.int
      1))) (aNil)))) (aNil))))
noncomputable def m_l_ring_ties : Fn := mkFn 2 3 y_l_ring_ties
abbrev s_l_web_of : Stmt := topS 13
abbrev n_l_web_of : List Str := ["_law_hand", "_law_most", "_law_two_rings", "_law_made", "_law_ties", "_law_places", "_law_turn", "_law_many", "_law_a", "_law_b"]
noncomputable def y_l_web_of : Ss := sSeq (sPar 6 7 (aCons (evCall m_l_take (aCons (evV 0) (aCons (evK (.int 6)) (aNil)))) (aCons (evCall m_l_pick (aCons (evV 0) (aCons (evLst (aCons (evV 1)
      (aCons (evK (.int 6)) (aCons (evK (.int 5)) (aCons (evK (.int 4)) (aCons (evK (.int 3)) (aCons (evK (.int 2)) (aCons (evK (.int 1)) (aCons (evK (.int
      0)) (aNil)))))))))) (aNil)))) (aNil)))) (sSeq (sIf (tst (ev2 gLt (evV 6) (evK (.int 2)))) (sRt (evCall m_l_web_drawn (aCons (evV 0) (aCons (evV 7) (aCons
      (evK (.int 21)) (aNil)))))) (sNil)) (sSeq (sSet 2 (ev2 gAdd (evCall m_l_ring_ties (aCons (evK (.int 0)) (aCons (evK (.int 3)) (aNil)))) (evCall m_l_ring_ties
      (aCons (evK (.int 3)) (aCons (evK (.int 3)) (aNil)))))) (sSeq (sSet 3 (evLst (aCons (evLst (aCons (evTup (aCons (evK (.int 0)) (aCons (evK (.int 1)) (aNil))))
      (aCons (evTup (aCons (evK (.int 1)) (aCons (evK (.int 2)) (aNil)))) (aCons (evTup (aCons (evK (.int 2)) (aCons (evK (.int 3)) (aNil)))) (aNil))))) (aCons
      (evCall m_l_ring_ties (aCons (evK (.int 0)) (aCons (evK (.int 6)) (aNil)))) (aCons (evV 2) (aCons (evCall m_l_ring_ties (aCons (evK (.int 0)) (aCons (evK
      (.int 7)) (aNil)))) (aNil))))))) (sSeq (sSet 4 (ev2 gIx (evV 3) (ev2 gSub (evV 6) (evK (.int 2))))) (sSeq (sSet 5 (evTupleRange (aCons (ev2 gAdd (evK
      (.int 1)) (evCall gMax (aCons (evComp (iSeq (evV 4)) (bTup [bName 8, bName 9]) (bYes) (evV 9) [8, 9]) (aNil)))) (aNil)))) (sRt (evTup (aCons (evV 5) (aCons
      (evCall (g1 fTuple) (aCons (evCall gSorted (aCons (evV 4) (aNil))) (aNil))) (aNil))))))))))
noncomputable def m_l_web_of : Fn := mkFn 2 10 y_l_web_of
abbrev s_l_called_by : Stmt := topS 14
abbrev n_l_called_by : List Str := ["_law_web", "_law_names", "_law_called", "_law_a", "_law_b"]
noncomputable def y_l_called_by : Ss := sSeq (sCell 2 (evCall gDictZip (aCons (ev2 gIx (evV 0) (evK (.int 0))) (aCons (evV 1) (aNil))))) (sRt (evTup (aCons (evCall (g1 fTuple) (aCons (evCall gSorted
      (aCons (evV 1) (aNil))) (aNil))) (aCons (evCall (g1 fTuple) (aCons (evCall gSorted (aCons (evComp (iSeq (ev2 gIx (evV 0) (evK (.int 1)))) (bTup [bName
      3, bName 4]) (bYes) (evCall (g1 fTuple) (aCons (evCall gSorted (aCons (evLst (aCons (ev2 gIx (evV 2) (evV 3)) (aCons (ev2 gIx (evV 2) (evV 4)) (aNil))))
      (aNil))) (aNil))) [3, 4]) (aNil))) (aNil))) (aNil)))))
noncomputable def m_l_called_by : Fn := mkFn 2 5 y_l_called_by
abbrev s_l_changed : Stmt := topS 15
abbrev n_l_changed : List Str := ["_law_hand", "_law_web", "_law_pairs", "_law_b", "_law_turn", "_law_places", "_law_ties", "_law_a", "_law_place"]
noncomputable def y_l_changed : Ss := sSeq (sMul [4, 5, 6] (aCons (evCall m_l_take (aCons (evV 0) (aCons (evK (.int 5)) (aNil)))) (aCons (ev2 gIx (evV 1) (evK (.int 0))) (aCell (evCall gList
      (aCons (ev2 gIx (evV 1) (evK (.int 1))) (aNil))) (aNil))))) (sSeq (sCell 2 (evLst (aNil))) (sSeq (sFo (iSeq (evV 5)) (bName 3) (sEx (evMt "list" gExtend
      (evV 2) (aCons (evComp (iSeq (evV 5)) (bName 7) (bAnd (tst (ev2 gLt (evV 7) (evV 3))) (tst (ev2 gNotIn (evTup (aCons (evV 7) (aCons (evV 3) (aNil))))
      (evV 6)))) (evTup (aCons (evV 7) (aCons (evV 3) (aNil)))) [7]) (aNil))))) (sSeq (sIf (bAnd (tst (ev2 gIn (evV 4) (evTup (aCons (evK (.int 0)) (aCons (evK
      (.int 1)) (aNil)))))) (tst (ev2 gNe (evV 6) (evLst (aNil))))) (sEx (evMt "list" gRemoveD (evV 6) (aCons (evCall m_l_pick (aCons (evV 0) (aCons (evV 6)
      (aNil)))) (aNil)))) (sNil)) (sSeq (sIf (bAnd (tst (ev2 gIn (evV 4) (evTup (aCons (evK (.int 0)) (aCons (evK (.int 2)) (aNil)))))) (tst (ev2 gNe (evV 2)
      (evLst (aNil))))) (sEx (evMt "list" gAppend (evV 6) (aCons (evCall m_l_pick (aCons (evV 0) (aCons (evV 2) (aNil)))) (aNil)))) (sNil)) (sSeq (sIf (bAnd
      (tst (ev2 gEq (evV 4) (evK (.int 3)))) (tst (ev2 gLt (evCall (g1 fLen) (aCons (evV 5) (aNil))) (evK (.int 7))))) (sSet 5 (evCall (g1 fTuple) (aCons (evCall
      gSorted (aCons (ev2 gAdd (evV 5) (evTup (aCons (evCall m_l_pick (aCons (evV 0) (aCons (evComp (iBy gRange1 (aCons (evK (.int 100)) (aNil))) (bName 8)
      (tst (ev2 gNotIn (evV 8) (evV 5))) (evV 8) [8]) (aNil)))) (aNil)))) (aNil))) (aNil)))) (sNil)) (sRt (evTup (aCons (evV 5) (aCons (evCall (g1 fTuple) (aCons
      (evCall gSorted (aCons (evV 6) (aNil))) (aNil))) (aNil))))))))))
noncomputable def m_l_changed : Fn := mkFn 2 9 y_l_changed
abbrev s_l_tied : Stmt := topS 16
abbrev n_l_tied : List Str := ["_law_web", "_law_a", "_law_b"]
noncomputable def y_l_tied : Ss := sRt (ev2 gIn (evTup (aCons (evCall gMin (aCons (evV 1) (aCons (evV 2) (aNil)))) (aCons (evCall gMax (aCons (evV 1) (aCons (evV 2) (aNil)))) (aNil)))) (ev2
      gIx (evV 0) (evK (.int 1))))
noncomputable def m_l_tied : Fn := mkFn 3 3 y_l_tied
abbrev s_l_least_names : Stmt := topS 17
abbrev n_l_least_names : List Str := ["_law_one", "_law_other", "_law_names", "_law_at", "_law_name", "_law_agrees", "_law_found", "_law_k"]
noncomputable def y_l_least_names (self : Fn) : Ss := sSeq (sSet 3 (evCall (g1 fLen) (aCons (evV 2) (aNil)))) (sSeq (sIf (tst (ev2 gEq (evV 3) (evCall (g1 fLen) (aCons (ev2 gIx (evV 0) (evK (.int 0))) (aNil)))))
      (sRt (evV 2)) (sNil)) (sSeq (sFo (iSeq (evComp (iSeq (ev2 gIx (evV 1) (evK (.int 0)))) (bName 4) (tst (ev2 gNotIn (evV 4) (evV 2))) (evV 4) [4])) (bName
      4) (sSeq (sSet 5 (evComp (iBy gRange1 (aCons (evV 3) (aNil))) (bName 7) (bYes) (ev2 gEq (evCall m_l_tied (aCons (evV 0) (aCons (ev2 gIx (ev2 gIx (evV
      0) (evK (.int 0))) (evV 7)) (aCons (ev2 gIx (ev2 gIx (evV 0) (evK (.int 0))) (evV 3)) (aNil))))) (evCall m_l_tied (aCons (evV 1) (aCons (ev2 gIx (evV
      2) (evV 7)) (aCons (evV 4) (aNil)))))) [7])) (sSeq (sSet 6 (evIf (tst (evCall (g1 fAll) (aCons (evV 5) (aNil)))) (evCall self (aCons (evV 0) (aCons (evV
      1) (aCons (ev2 gAdd (evV 2) (evTup (aCons (evV 4) (aNil)))) (aNil))))) (evK .none))) (sIf (tst (ev2 gNotN (evV 6) (evK .none))) (sRt (evV 6)) (sNil)))))
      (sRt (evK .none))))
noncomputable def m_l_least_names : Nat → Fn
  | 0 => fun _ _ => .no
  | n + 1 => mkFn 3 8 (y_l_least_names (m_l_least_names n))
abbrev s_l_due_names : Stmt := topS 18
abbrev n_l_due_names : List Str := ["_law_one", "_law_other"]
noncomputable def y_l_due_names : Ss := sSeq (sIf (bOr (tst (ev2 gNe (evCall (g1 fLen) (aCons (ev2 gIx (evV 0) (evK (.int 0))) (aNil))) (evCall (g1 fLen) (aCons (ev2 gIx (evV 1) (evK (.int 0)))
      (aNil))))) (tst (ev2 gNe (evCall (g1 fLen) (aCons (ev2 gIx (evV 0) (evK (.int 1))) (aNil))) (evCall (g1 fLen) (aCons (ev2 gIx (evV 1) (evK (.int 1)))
      (aNil)))))) (sRt (evK .none)) (sNil)) (sRt (evCall (m_l_least_names 40) (aCons (evV 0) (aCons (evV 1) (aCons (evTup (aNil)) (aNil))))))
noncomputable def m_l_due_names : Fn := mkFn 2 2 y_l_due_names
abbrev s_law : Stmt := topS 19
abbrev n_law : List Str := ["_law_script", "_law_k", "_law_hand", "_law_web", "_law_names", "_law_other", "_law_some", "_law_one", "_law_more", "_law_found", "_law_thing"]
noncomputable def y_law : Ss := sSeq (sFo (iBy gRange1 (aCons (evCall gMax (aCons (evK (.int 1)) (aCons (evCall gMin (aCons (evK (.int 6)) (aCons (evCall (g1 fLen) (aCons (evV 0) (aNil)))
      (aNil)))) (aNil)))) (aNil))) (bName 1) (sSeq (sCell 2 (evCall m_l_hand_of (aCons (evV 0) (aCons (evV 1) (aNil))))) (sSeq (sSet 3 (evCall m_l_web_of (aCons
      (evV 2) (aCons (evIf (tst (ev2 gEq (evV 1) (evK (.int 0)))) (evK (.int 7)) (evK (.int 6))) (aNil))))) (sSeq (sSet 4 (evCall m_l_pick (aCons (evV 2) (aCons
      (evLst (aCons (ev2 gIx (evV 3) (evK (.int 0))) (aCons (evTupleRange (aCons (evK (.int 40)) (aCons (ev2 gAdd (evK (.int 40)) (evCall (g1 fLen) (aCons (ev2
      gIx (evV 3) (evK (.int 0))) (aNil)))) (aNil)))) (aCons (evTupleRange (aCons (evCall (g1 fLen) (aCons (ev2 gIx (evV 3) (evK (.int 0))) (aNil))) (aNil)))
      (aNil))))) (aNil))))) (sSeq (sSet 5 (evCall m_l_called_by (aCons (evV 3) (aCons (evCall (g1 fTuple) (aCons (evCall m_l_shuffled (aCons (evV 2) (aCons
      (evV 4) (aNil)))) (aNil))) (aNil))))) (sSeq (sSet 6 (evLst (aCons (evV 5) (aCons (evCall m_l_changed (aCons (evV 2) (aCons (evV 5) (aNil)))) (aCons (evCall
      m_l_web_drawn (aCons (evV 2) (aCons (evCall (g1 fLen) (aCons (ev2 gIx (evV 3) (evK (.int 0))) (aNil))) (aCons (evK (.int 21)) (aNil))))) (aCons (evV 3)
      (aNil))))))) (sFo (iSeq (ev2 gAdd (evComp (iSeq (evV 6)) (bName 10) (bYes) (evTup (aCons (evV 3) (aCons (evV 10) (aNil)))) [10]) (evComp (iSeq (evV 6))
      (bName 10) (bYes) (evTup (aCons (evV 10) (aCons (evV 3) (aNil)))) [10]))) (bTup [bName 7, bName 8]) (sSeq (sSet 9 (evCall m_alike (aCons (evV 7) (aCons
      (evV 8) (aNil))))) (sSeq (sIf (bOr (tst (ev2 gNe (evCall gRepr (aCons (evV 9) (aNil))) (evCall gRepr (aCons (evCall m_l_due_names (aCons (evV 7) (aCons
      (evV 8) (aNil)))) (aNil))))) (tst (ev2 gNe (evCall gRepr (aCons (evCall m_alike (aCons (evV 7) (aCons (evV 8) (aNil)))) (aNil))) (evCall gRepr (aCons
      (evV 9) (aNil)))))) (sRt (evK (.bool false))) (sNil)) (sIf (bAnd (tst (ev2 gNotN (evV 9) (evK .none))) (tst (ev2 gNe (evCall m_l_called_by (aCons (evV
      7) (aCons (evV 9) (aNil)))) (evV 8)))) (sRt (evK (.bool false))) (sNil))))))))))) (sRt (evK (.bool true)))
noncomputable def m_law : Fn := mkFn 1 11 y_law
end Z
set_option Elab.async false
set_option linter.all false
set_option maxRecDepth 100000
set_option maxHeartbeats 1000000
namespace Z
open PySem PySem.Spec PyProof.Rows L2 MV
/-! ### family C: what is drawn -/
theorem hz : (1000 : Nat) ≤ sizeLine := by decide
def HC (n : Nat) (l : List PyData) : Prop := ∃ a b c : Int, l = [.int a, .int b, .int c] ∧ (0 ≤ b ∧ b < 2305843009213693951) ∧ 0 ≤ c ∧ c ≤ n
theorem HC.up {n m : Nat} {l : List PyData} (h : HC n l) (le : n ≤ m) : HC m l := by
  obtain ⟨a, b, c, e, h1, h2, h3⟩ := h
  exact ⟨a, b, c, e, h1, h2, by omega⟩
theorem take_wp {S : Sto} {i n : Nat} {l : List PyData} {m : Int} {Q : Val → Sto → Prop} (hn : S[i]? = some (.lst l)) (hl : HC n l) (hb : n ≤ 1000000) (hm : 0 < m) (hm2 : m < 1152921504606846976)
    (q : ∀ l' r, HC (n + 1) l' → 0 ≤ r → r < m → Q (.d (.int r)) (S.set i (.lst l'))) : wp (m_l_take [.c i, .d (.int m)] S) Q := by
  obtain ⟨a, b, c, rfl, h1, h2, h3⟩ := hl
  refine wp_fn rfl ?_
  refine wp_seq fun K kn kr => ?_
  by_cases h : 0 < a
  · simp [h, hm, hm2, put3_0 hn, o_ixC hn]
    exact kr _ _ (wp_out_d (by rw [st_take3]; exact q _ _ ⟨_, _, _, rfl, h1, h2, by omega⟩ (mod_in _ _ hm).1 (mod_in _ _ hm).2))
  · simp [h, o_ixC hn]
    refine kn _ _ ?_
    clear kn kr K
    refine wp_seqN fun K kn => ?_
    simp [o_ixC hn, put3_2 hn]
    refine kn _ _ ?_
    clear kn K
    have n1 := st_upd (k' := .lst [.int a, .int b, .int (c + 1)]) hn
    have b1 : -18446744073709551616 < c + 1 := by omega
    have b2 : c + 1 < 18446744073709551616 := by omega
    refine wp_seqN fun K kn => ?_
    simp [b1, b2, o_ixC n1]
    refine kn _ _ ?_
    clear kn K
    have m1 := mod_in ((b + 65537 * (c + 1) * (c + 1) + 11) * 48271) 2305843009213693921 (by decide)
    generalize (b + 65537 * (c + 1) * (c + 1) + 11) * 48271 % 2305843009213693921 = mix at *
    have m2 : -18446744073709551616 < mix := by omega
    have m3 : mix < 18446744073709551616 := by omega
    refine wp_seqN fun K kn => ?_
    simp [m2, m3, o_ixC n1]
    refine kn _ _ ?_
    clear kn K
    simp [hm]
    exact q _ _ ⟨_, _, _, rfl, h1, by omega, by omega⟩ (mod_in _ _ hm).1 (mod_in _ _ hm).2
theorem pick_wp {S : Sto} {i n : Nat} {l : List PyData} {xs : List PyData} {Q : Val → Sto → Prop} (hn : S[i]? = some (.lst l)) (hl : HC n l) (hb : n ≤ 1000000) (h0 : xs ≠ []) (hx : xs.length ≤ 1000)
    (q : ∀ l' x, HC (n + 1) l' → x ∈ xs → Q (.d x) (S.set i (.lst l'))) : wp (m_l_pick [.c i, .d (.list xs)] S) Q := by
  refine wp_fn rfl ?_
  have hp : 0 < xs.length := List.length_pos_iff.mpr h0
  simp [y_l_pick, wp_bind]
  refine take_wp hn hl hb (by omega) (by omega) fun l' r hl' r0 r1 => ?_
  have hr : r.toNat < xs.length := by omega
  have e : atI xs r = some xs[r.toNat] := at_nat r0 (List.getElem?_eq_getElem hr)
  simp [e]
  exact q _ _ hl' (List.getElem_mem hr)
theorem ins_c {S : Sto} {n : Nat} {ds : List PyData} {k : Int} {y : PyData} (h : S[n]? = some (.lst ds)) (hl : ds.length < sizeLine) (k0 : 0 ≤ k) (k1 : k < 2 ^ 63) : gInsert (.c n) [.d (.int k), .d y] S = .ok (.d .none) (S.set n (.lst (ds.take k.toNat ++ [y] ++ ds.drop k.toNat))) := by
  unfold gInsert cellL
  dsimp only
  rw [h]
  dsimp only
  rw [if_pos ⟨hl, k0, k1⟩]
theorem ins_perm {α : Type} (ds : List α) (k : Nat) (y : α) : (ds.take k ++ [y] ++ ds.drop k).Perm (ds ++ [y]) := by
  have h : (ds.take k ++ ([y] ++ ds.drop k)).Perm (ds.take k ++ (ds.drop k ++ [y])) := List.Perm.append_left _ List.perm_append_comm
  rw [← List.append_assoc, ← List.append_assoc, List.take_append_drop] at h
  exact h
theorem shuf_wp {S : Sto} {i n : Nat} {l : List PyData} {v : Val} {t : Bool} {ds : List PyData} {g : List (Nat × List PyData)} (hn : S[i]? = some (.lst l)) (hl : HC n l) (hb : n ≤ 900000) (hv : seqOf S v = some (t, ds, g)) (hg : ∀ p ∈ g, p.1 ≠ i ∧ p.1 < S.length) (hd : ds.length ≤ 1000) :
    wp (m_l_shuffled [.c i, v] S) fun v' S' => ∃ ds' l', v' = .f (.lst ds') ∧ ds'.Perm ds ∧ HC (n + ds.length) l' ∧ S' = S.set i (.lst l') := by
  have hz := hz
  have hlt := st_lt hn
  have hg2 : ∀ p ∈ g, S[p.1]? = some (.lst p.2) := seq_now hv
  refine wp_fn rfl ?_
  have hth : v.th = v := by
    cases v with
    | f k => cases hv
    | _ => rfl
  refine wp_seqN fun K kn => ?_
  simp
  refine kn _ _ ?_
  clear kn K
  have he : seqOf (S ++ [.lst []]) v = some (t, ds, g) := by
    cases v with
    | f k => cases hv
    | d x => cases x <;> first | exact hv | cases hv
    | z es => exact hv
    | c m =>
      rw [seq_c] at hv ⊢
      split at hv
      · rename_i es q
        rw [List.getElem?_append_left (st_lt q), q]
        exact hv
      · cases hv
  refine wp_seqN fun K kn => ?_
  refine wp_forK (fun (pre : List PyData) ρ T => ∃ ds' l' o3, ρ = [some (.c i), some v, some (.c S.length), o3] ∧ ds'.Perm pre ∧ HC (n + pre.length) l' ∧ T = S.set i (.lst l') ++ [.lst ds']) ds id (s := ⟨ds, g⟩) (S1 := S ++ [.lst []]) (by simp [hth, he]) (by simp) ?_ ⟨[], l, none, rfl, List.Perm.refl _, hl, by rw [st_self hn]⟩ ?_ ?_
  · rintro pre ρ T ⟨ds', l', o3, rfl, hp, hl', rfl⟩ p hp
    rw [List.getElem?_append_left (by simpa using (hg p hp).2), List.getElem?_set_ne (Ne.symm (hg p hp).1)]
    exact hg2 p hp
  · rintro pre x post ρ T e ⟨ds', l', o3, rfl, hp, hl', rfl⟩
    refine ⟨_, rfl, fun K kn kr => ?_⟩
    have hlen : pre.length < ds.length := by rw [e]; simp
    have hc : (S.set i (.lst l') ++ [.lst ds'])[S.length]? = some (.lst ds') := st_loc
    have hpl := hp.length_eq
    simp [ty_list hc, g_lenC hc, wp_bind]
    refine take_wp (st_own hlt) hl' (by omega) (by omega) (by omega) fun l2 r hl2 r0 r1 => ?_
    rw [st_set_own hlt]
    have hc2 : (S.set i (.lst l2) ++ [.lst ds'])[S.length]? = some (.lst ds') := st_loc
    simp [ins_c hc2 (by omega) r0 (show r < 2 ^ 63 by omega), st_set_loc]
    refine kn _ _ ⟨_, l2, _, rfl, ?_, by rw [List.length_append]; exact hl2, rfl⟩
    have q := (ins_perm ds' r.toNat x).trans (hp.append_right [x])
    simpa using q
  · rintro ρ T ⟨ds', l', o3, rfl, hp, hl', rfl⟩
    refine kn _ _ ?_
    simp [out_c (show ¬ S.length < S.length by omega) st_loc]
    exact ⟨hp, l', hl', rfl⟩
theorem places_wp {S : Sto} {i n : Nat} {l : List PyData} {many : Int} (hn : S[i]? = some (.lst l)) (hl : HC n l) (hb : n ≤ 900000) (m0 : 0 ≤ many) (m1 : many ≤ 24) :
    wp (m_l_places_drawn [.c i, .d (.int many)] S) fun v S' => ∃ P l', v = .d (pT P) ∧ Rise P ∧ (P.length : Int) = many ∧ (∀ a ∈ P, 0 ≤ a ∧ a ≤ 99) ∧ HC (n + 2) l' ∧ S' = S.set i (.lst l') := by
  have hz := hz
  refine wp_fn rfl ?_
  refine wp_seqN fun K kn => ?_
  simp [wp_bind]
  refine pick_wp hn hl (by omega) (by simp) (by simp) fun l1 x hl1 hx => ?_
  obtain ⟨st, hst, rfl⟩ : ∃ st : Int, (st = 1 ∨ st = 3 ∨ st = 4) ∧ x = .int st := by
    simp at hx
    rcases hx with rfl | rfl | rfl
    · exact ⟨1, by simp, rfl⟩
    · exact ⟨3, by simp, rfl⟩
    · exact ⟨4, by simp, rfl⟩
  simp
  refine kn _ _ ?_
  clear kn K
  have s1 : -18446744073709551616 < st := by omega
  have s2 : st < 18446744073709551616 := by omega
  refine wp_seqN fun K kn => ?_
  simp [s1, s2, wp_bind]
  refine pick_wp (st_upd hn) hl1 (by omega) (by simp) (by simp) fun l2 x hl2 hx => ?_
  obtain ⟨fi, hfi, rfl⟩ : ∃ fi : Int, (fi = 0 ∨ fi = 5 ∨ fi = 99 - st * (if many - 1 > 0 then many - 1 else 0)) ∧ x = .int fi := by
    simp at hx
    rcases hx with rfl | rfl | rfl
    · exact ⟨0, by simp, rfl⟩
    · exact ⟨5, by simp, rfl⟩
    · exact ⟨_, by simp, rfl⟩
  simp
  refine kn _ _ ?_
  clear kn K
  simp
  rw [comp_map (List.range many.toNat) (fun (i : Nat) => PyData.int (0 + i)) (fun (i : Nat) => .int (fi + st * i)) (s := ⟨iota 0 many.toNat, []⟩) (by simp; rw [e_range1 (by omega) (by omega)]) rfl gok_nil (by simp; omega)
    (fun t ht => ⟨_, by simp [wipeE]; rfl, by simp, _, by simp [s1, s2]; rfl, rfl⟩)]
  simp
  refine ⟨(List.range many.toNat).map fun (i : Nat) => fi + st * i, by simp [pT, Function.comp_def], ?_, by simp; omega, ?_, l2, hl2, rfl⟩
  · rw [Rise, List.pairwise_map]
    refine List.Pairwise.imp (fun {a b} h => ?_) List.pairwise_lt_range
    rcases hst with rfl | rfl | rfl <;> omega
  · intro a ha
    obtain ⟨k, hk, rfl⟩ := List.mem_map.mp ha
    rw [List.mem_range] at hk
    split at hfi <;> rcases hst with rfl | rfl | rfl <;> rcases hfi with rfl | rfl | rfl <;> omega
/-! a web -/
theorem range_at {n k : Nat} {pre post : List Nat} (e : List.range n = pre ++ k :: post) : k = pre.length ∧ k < n := by
  have h := congrArg (fun l : List Nat => l[pre.length]?) e
  simp at h
  have hk : k ∈ List.range n := by rw [e]; simp
  rw [List.mem_range] at hk
  have hl : pre.length < n := by
    have := congrArg List.length e
    simp at this
    omega
  rw [List.getElem?_range hl] at h
  exact ⟨(Option.some.inj h).symm, hk⟩
def unP : PyData → Int × Int
  | .tuple [.int a, .int b] => (a, b)
  | _ => (0, 0)
theorem perm_pairs {ts : List (Int × Int)} {ds : List PyData} (h : ds.Perm (dP ts)) : ∃ us, ds = dP us ∧ us.Perm ts := by
  refine ⟨ds.map unP, ?_, ?_⟩
  · show ds = (ds.map unP).map pP
    rw [List.map_map]
    refine (List.map_id _).symm.trans (List.map_congr_left fun d hd => ?_)
    obtain ⟨t, _, rfl⟩ := List.mem_map.mp (h.mem_iff.mp hd)
    rfl
  · have q := h.map unP
    rw [List.map_map] at q
    have e : (unP ∘ pP) = id := rfl
    rw [e, List.map_id] at q
    exact q
def idx (P : List Int) (a : Int) : Int := P.getD a.toNat 0
theorem idx_at {P : List Int} {a : Int} (h0 : 0 ≤ a) (h1 : a < P.length) : atI (dI P) a = some (.int (idx P a)) := by
  have h : a.toNat < P.length := by omega
  refine at_nat h0 ?_
  rw [List.getElem?_map, List.getElem?_eq_getElem h]
  simp [idx, h]
theorem idx_mem {P : List Int} {a : Int} (h0 : 0 ≤ a) (h1 : a < P.length) : idx P a ∈ P := by
  have h : a.toNat < P.length := by omega
  have e : idx P a = P[a.toNat] := by simp [idx, h]
  rw [e]
  exact List.getElem_mem h
theorem idx_lt {P : List Int} (hr : Rise P) {a b : Int} (h0 : 0 ≤ a) (h : a < b) (h1 : b < P.length) : idx P a < idx P b := by
  have ha : a.toNat < P.length := by omega
  have hb : b.toNat < P.length := by omega
  have e : idx P a = P[a.toNat] := by simp [idx, ha]
  have e2 : idx P b = P[b.toNat] := by simp [idx, hb]
  rw [e, e2]
  exact List.pairwise_iff_getElem.mp hr a.toNat b.toNat ha hb (by omega)
noncomputable def c_ext : Ss := sEx (evMt "list" gExtend (evV 4) (aCons (evComp (iBy gRange1 (aCons (evV 3) (aNil))) (bName 8) (bAnd (tst (ev2 gNotIn (evTup (aCons (evV 8) (aCons (evV 3) (aNil)))) (evV 4))) (tst (ev2 gEq (evCall m_l_take (aCons (evV 0) (aCons
  (evV 5) (aNil)))) (evK (.int 0))))) (evTup (aCons (evV 8) (aCons (evV 3) (aNil)))) [8]) (aNil)))
theorem ext_wp {S T0 : Sto} {i m : Nat} {l' : List PyData} {ts' : List (Int × Int)} {k : Nat} {sp : Int} {v1 v2 v6 v7 o8 : Option Val} {K : Fw → Sto → Prop} (hlt : i < S.length) (hl' : HC m l') (hb : m ≤ 900000) (hsp : 0 < sp ∧ sp < 10) (hk : k < 24) (p1 : ts'.length ≤ 900) (p2 : ts'.Nodup)
    (kn : ∀ l us o8, HC (m + k + 1) l → us.length ≤ k + 1 → us.Nodup → (∀ t ∈ us, t ∉ ts' ∧ 0 ≤ t.1 ∧ t.1 < 1 + (k : Int) ∧ t.2 = 1 + (k : Int)) → K (.nx [some (.c i), v1, v2, some (.d (.int (1 + (k : Int)))), some (.c S.length), some (.d (.int sp)), v6, v7, o8]) (S.set i (.lst l) ++ [.lst (dP (ts' ++ us))]))
    (hT : T0 = S.set i (.lst l') ++ [.lst (dP ts')]) : wp (c_ext [some (.c i), v1, v2, some (.d (.int (1 + (k : Int)))), some (.c S.length), some (.d (.int sp)), v6, v7, o8] T0) K := by
  have hz := hz
  subst hT
  unfold c_ext
  have hc : (S.set i (.lst l') ++ [.lst (dP ts')])[S.length]? = some (.lst (dP ts')) := st_loc
  obtain ⟨kN, hkN⟩ : ∃ kN : Nat, kN = k + 1 := ⟨_, rfl⟩
  rw [e_sEx, mt_eval (v := .c S.length) rfl (ty_list hc)]
  simp [wp_bind]
  refine wp_compK (fun (pri : List Nat) acc T => ∃ (l : List PyData) (us : List (Int × Int)), HC (m + pri.length) l ∧ acc = dP us ∧ T = S.set i (.lst l) ++ [.lst (dP ts')] ∧ us.length ≤ pri.length ∧ us.Nodup ∧ ∀ t ∈ us, t ∉ ts' ∧ 0 ≤ t.1 ∧ t.1 < (pri.length : Int) ∧ t.2 = 1 + (k : Int)) (List.range kN) (fun (k : Nat) => .int (0 + k)) (s := ⟨iota 0 kN, []⟩) (S1 := S.set i (.lst l') ++ [.lst (dP ts')]) ?_ rfl (by simp; omega) (fun _ _ _ _ => gok_nil) ⟨l', [], hl', rfl, rfl, by simp, by simp, by simp⟩ ?_ ?_
  · simp
    rw [e_range1 (by omega) (by omega)]
    have e5 : ((1 : Int) + (k : Int)).toNat = kN := by omega
    rw [e5]
  · rintro pri a posti acc T ea ⟨l, us, hl, rfl, rfl, u1, u2, u3⟩
    obtain ⟨ha, ha2⟩ := range_at ea
    refine ⟨_, rfl, fun K kt kf => ?_⟩
    have hc : (S.set i (.lst l) ++ [.lst (dP ts')])[S.length]? = some (.lst (dP ts')) := st_loc
    have e1 : gNotIn (.d (.tuple [.int (a : Int), .int (1 + (k : Int))])) (.c S.length) (S.set i (.lst l) ++ [.lst (dP ts')]) = .ok (.d (.bool (!decide (((a : Int), 1 + (k : Int)) ∈ ts')))) (S.set i (.lst l) ++ [.lst (dP ts')]) := encP.notInC ((a : Int), 1 + (k : Int)) ts' hc
    have stay : ∀ l2, HC (m + (pri.length + 1)) l2 → K false (S.set i (.lst l2) ++ [.lst (dP ts')]) := fun l2 h2 => kf _ ⟨l2, us, by rw [List.length_append]; exact h2, rfl, rfl, by simp; omega, u2, fun t ht => by
      obtain ⟨v1, v2, v3, v4⟩ := u3 t ht
      exact ⟨v1, v2, by simp; omega, v4⟩⟩
    simp [wipeE, e1]
    by_cases hin : ((a : Int), 1 + (k : Int)) ∈ ts'
    · simp [hin]
      exact stay l (hl.up (by omega))
    · simp [hin, wp_bind]
      refine take_wp (st_own hlt) hl (by omega) hsp.1 (by omega) fun l2 r hl2 r0 r1 => ?_
      rw [st_set_own hlt]
      by_cases hr : r = 0
      · subst hr
        simp
        refine kt _ fun K2 k2 => ?_
        simp [wipeE]
        refine k2 _ _ _ rfl ⟨l2, us ++ [((a : Int), 1 + (k : Int))], hl2.up (by simp; omega), by simp [pP], rfl, by simp; omega, ?_, ?_⟩
        · rw [List.nodup_append]
          refine ⟨u2, by simp, fun x hx y hy e => ?_⟩
          rw [List.mem_singleton.mp hy] at e
          subst e
          have := (u3 _ hx).2.2.1
          simp at this
          omega
        · intro t ht
          rcases List.mem_append.mp ht with ht | ht
          · obtain ⟨v1, v2, v3, v4⟩ := u3 t ht
            exact ⟨v1, v2, by simp; omega, v4⟩
          · rw [List.mem_singleton.mp ht]
            exact ⟨hin, by simp, by simp; omega, rfl⟩
      · simp
        rw [beq_false_of_ne hr]
        exact stay l2 hl2
  · rintro acc T ⟨l, us, hl, rfl, rfl, u1, u2, u3⟩
    simp at u1 hl
    have hc : (S.set i (.lst l) ++ [.lst (dP ts')])[S.length]? = some (.lst (dP ts')) := st_loc
    simp [ext_c hc (w := .d (.list (dP us))) rfl (by simp; omega), st_set_loc]
    have q := kn l us o8 (hl.up (by omega)) (by omega) u2 fun t ht => by
      obtain ⟨v1, v2, v3, v4⟩ := u3 t ht
      simp at v3
      exact ⟨v1, v2, by omega, v4⟩
    simpa using q
theorem web_wp {S : Sto} {i n : Nat} {l : List PyData} {many most : Int} (hn : S[i]? = some (.lst l)) (hl : HC n l) (hb : n ≤ 800000) (m0 : 0 ≤ many) (m1 : many ≤ 24) (k0 : 0 ≤ most) (k1 : most ≤ 60) :
    wp (m_l_web_drawn [.c i, .d (.int many), .d (.int most)] S) fun v S' => ∃ W l', v = .d (pW W) ∧ IsWeb W ∧ (W.1.length : Int) = many ∧ (W.2.length : Int) ≤ most ∧ HC (n + 2000) l' ∧ S' = S.set i (.lst l') := by
  have hz := hz
  have hlt := st_lt hn
  refine wp_fn rfl ?_
  refine wp_seqN fun K kn => ?_
  simp [wp_bind]
  refine pick_wp hn hl (by omega) (by simp) (by simp) fun l1 x hl1 hx => ?_
  obtain ⟨sp, hsp, rfl⟩ : ∃ sp : Int, (0 < sp ∧ sp < 10) ∧ x = .int sp := by
    simp at hx
    rcases hx with rfl | rfl | rfl | rfl | rfl
    · exact ⟨2, by decide, rfl⟩
    · exact ⟨3, by decide, rfl⟩
    · exact ⟨5, by decide, rfl⟩
    · exact ⟨9, by decide, rfl⟩
    · exact ⟨1, by decide, rfl⟩
  simp [wp_bind]
  refine take_wp (st_upd hn) hl1 (by omega) (by decide) (by decide) fun l2 r2 hl2 r20 r21 => ?_
  simp
  refine kn _ _ ?_
  clear kn K
  generalize (r2 == 0) = tree
  obtain ⟨mN, hmN⟩ : ∃ mN : Nat, mN = (many - 1).toNat := ⟨_, rfl⟩
  refine wp_seqN fun K kn => ?_
  simp [wp_bind]
  refine (places_wp (st_upd hn) hl2 (by omega) m0 m1).mono ?_
  rintro v T ⟨P, l3, rfl, hP, hPl, hP9, hl3, rfl⟩
  simp
  refine kn _ _ ?_
  clear kn K
  refine wp_seqN fun K kn => ?_
  refine wp_forK (fun (pre : List Nat) ρ T => ∃ l ts o3 o8, HC (n + 4 + 30 * pre.length) l ∧ ρ = [some (.c i), some (.d (.int many)), some (.d (.int most)), o3, some (.c S.length), some (.d (.int sp)), some (.d (.bool tree)), some (.d (pT P)), o8] ∧
      T = S.set i (.lst l) ++ [.lst (dP ts)] ∧ ts.length ≤ 30 * pre.length ∧ ts.Nodup ∧ ∀ t ∈ ts, 0 ≤ t.1 ∧ t.1 < t.2 ∧ t.2 < 1 + (pre.length : Int)) (List.range mN) (fun (k : Nat) => .int (1 + k)) (s := ⟨iota 1 mN, []⟩) (S1 := S.set i (.lst l3) ++ [.lst []]) ?_ rfl (fun _ _ _ _ => gok_nil) ?_ ?_ ?_
  · simp
    rw [e_range2 (by omega) (by omega) (by omega) (by omega), ← hmN]
  · exact ⟨l3, [], none, none, hl3, rfl, rfl, by simp, by simp, by simp⟩
  · rintro pre k post ρ T e ⟨l, ts, o3, o8, hl, rfl, rfl, q1, q2, q3⟩
    obtain ⟨hk, hk2⟩ := range_at e
    refine ⟨_, rfl, fun K kn kr => ?_⟩
    have hb1 : (0 : Int) < 1 + (k : Int) := by omega
    have hb2 : (1 + (k : Int)) < 1152921504606846976 := by omega
    have cont : ∀ (l' : List PyData) (ts' : List (Int × Int)), HC (n + 4 + 30 * pre.length + 1) l' → ts'.length ≤ 30 * pre.length + 1 → ts'.Nodup → (∀ t ∈ ts', 0 ≤ t.1 ∧ t.1 < t.2 ∧ t.2 < 1 + ((pre.length + 1 : Nat) : Int)) →
        ∀ T0 : Sto, T0 = S.set i (.lst l') ++ [.lst (dP ts')] → wp (c_ext [some (.c i), some (.d (.int many)), some (.d (.int most)), some (.d (.int (1 + (k : Int)))), some (.c S.length), some (.d (.int sp)), some (.d (.bool tree)), some (.d (pT P)), o8] T0) K := by
      intro l' ts' hl' p1 p2 p3 T0 hT
      refine ext_wp hlt hl' (by omega) hsp (by omega) (by omega) p2 ?_ hT
      intro l us o8' hl u1 u2 u3
      refine kn _ _ ⟨l, ts' ++ us, _, _, hl.up (by simp; omega), rfl, rfl, by simp; omega, ?_, ?_⟩
      · rw [List.nodup_append]
        exact ⟨p2, u2, fun x hx y hy e => (u3 y hy).1 (e ▸ hx)⟩
      · intro t ht
        rcases List.mem_append.mp ht with ht | ht
        · have := p3 t ht
          simp
          omega
        · obtain ⟨v1, v2, v3, v4⟩ := u3 t ht
          simp
          omega
    refine wp_seqN fun K1 k1 => ?_
    cases tree with
    | false =>
      simp
      refine k1 _ _ (cont l ts (hl.up (by omega)) (by omega) q2 (fun t ht => ?_) _ rfl)
      have := q3 t ht
      simp
      omega
    | true =>
      have hc : (S.set i (.lst l) ++ [.lst (dP ts)])[S.length]? = some (.lst (dP ts)) := st_loc
      simp [ty_list hc, wp_bind]
      refine take_wp (st_own hlt) hl (by omega) hb1 hb2 fun l2 r hl2 r0 r1 => ?_
      rw [st_set_own hlt]
      have hc : (S.set i (.lst l2) ++ [.lst (dP ts)])[S.length]? = some (.lst (dP ts)) := st_loc
      simp [app_c hc (y := .tuple [.int r, .int (1 + (k : Int))]) (by simp; omega), st_set_loc]
      have e6 : dP ts ++ [PyData.tuple [.int r, .int (1 + (k : Int))]] = dP (ts ++ [(r, 1 + (k : Int))]) := by simp [pP]
      rw [e6]
      refine k1 _ _ (cont l2 _ hl2 (by simp; omega) ?_ ?_ _ rfl)
      · rw [List.nodup_append]
        refine ⟨q2, by simp, fun x hx y hy e => ?_⟩
        rw [List.mem_singleton.mp hy] at e
        subst e
        have := (q3 _ hx).2.2
        simp at this
        omega
      · intro t ht
        rcases List.mem_append.mp ht with ht | ht
        · have := q3 t ht
          simp
          omega
        · rw [List.mem_singleton.mp ht]
          simp
          omega
  · rintro ρ T ⟨l, ts, o3, o8, hl, rfl, rfl, q1, q2, q3⟩
    refine kn _ _ ?_
    clear kn K
    simp at q1 q3 hl
    have hc : (S.set i (.lst l) ++ [.lst (dP ts)])[S.length]? = some (.lst (dP ts)) := st_loc
    refine wp_seqN fun K kn => ?_
    simp [wp_bind]
    refine (shuf_wp (st_own hlt) hl (by omega) (v := .c S.length) (t := false) (ds := dP ts) (g := [(S.length, dP ts)]) (by rw [seq_c, hc]) (fun p hp => by simp at hp; subst hp; simp; omega) (by simp; omega)).mono ?_
    rintro v T ⟨ds, l2, rfl, hp, hl2, rfl⟩
    obtain ⟨us, rfl, hp2⟩ := perm_pairs hp
    clear hp
    have hp := hp2
    rw [st_set_own hlt]
    simp at hl2
    simp
    rw [cut_to k0]
    have hus := hp.length_eq
    rw [← List.map_take]
    rw [sorted_pair (t := false) (g := []) (ps := us.take most.toNat) (by simp) (by simp; omega)]
    simp
    refine kn _ _ ?_
    clear kn K
    have hc : (S.set i (.lst l2) ++ [.lst (dP ts), .lst (dP (psort (us.take most.toNat)))])[S.length + 1]? = some (.lst (dP (psort (us.take most.toNat)))) := st_loc1
    have un : ∀ t ∈ psort (us.take most.toNat), 0 ≤ t.1 ∧ t.1 < t.2 ∧ t.2 < (P.length : Int) := fun t ht => by
      have q := q3 t.1 t.2 (hp.mem_iff.mp (List.mem_of_mem_take (mem_psort.mp ht)))
      omega
    simp
    rw [comp_map (psort (us.take most.toNat)) pP (fun t => pP (idx P t.1, idx P t.2)) (s := ⟨dP (psort (us.take most.toNat)), [(S.length + 1, dP (psort (us.take most.toNat)))]⟩) (by simp [hc]) rfl (fun p hp => by simp at hp; subst hp; exact hc) (by simp; omega) (fun t ht => by
      have q := un t ht
      have e1 := idx_at (P := P) (a := t.1) q.1 (by omega)
      have e2 := idx_at (P := P) (a := t.2) (by omega) q.2.2
      have e3 : ∀ (x : Int) (T : Sto), gIx (.d (pT P)) (.d (.int x)) T = (match atI (dI P) x with | some d => .ok (.d d) T | none => .no) := fun _ _ => rfl
      exact ⟨_, by simp [wipeE]; rfl, by simp, _, by simp [e3, e1, e2]; rfl, rfl⟩)]
    simp
    have hlen : (psort (us.take most.toNat)).length ≤ most := by simp; omega
    refine ⟨P, (psort (us.take most.toNat)).map fun t => (idx P t.1, idx P t.2), by simp [pW, pTs, Function.comp_def], ?_, by omega, by simpa using hlen, l2, hl2.up (by omega), rfl⟩
    refine ⟨hP, ?_, hP9, fun t ht => ?_⟩
    · rw [RiseP, List.pairwise_map]
      have nd : (us.take most.toNat).Nodup := (hp.nodup_iff.mpr q2).sublist (List.take_sublist _ _)
      refine (psort_rise nd).imp_of_mem fun {a b} ha hb h => ?_
      have qa := un a ha
      have qb := un b hb
      unfold pLt at h ⊢
      rcases h with h | ⟨h, h'⟩
      · exact .inl (idx_lt hP qa.1 h (by omega))
      · refine .inr ⟨by rw [h], idx_lt hP (by omega) h' qb.2.2⟩
    · obtain ⟨a, ha, rfl⟩ := List.mem_map.mp ht
      have q := un a ha
      have q4 : a.1 < (P.length : Int) := by omega
      have q5 : 0 ≤ a.2 := by omega
      exact ⟨idx_lt hP q.1 q.2.1 q.2.2, idx_mem q.1 q4, idx_mem q5 q.2.2⟩
end Z
set_option Elab.async false
set_option linter.all false
set_option maxRecDepth 100000
set_option maxHeartbeats 1000000
namespace Z
open PySem PySem.Spec PyProof.Rows L2 MV
theorem hand_wp (ns : List Int) (k : Int) (hk : 0 ≤ k) (hk2 : k < 1000) (S : Sto) : wp (m_l_hand_of [.z (dI ns), .d (.int k)] S) fun v S' => S' = S ∧ ∃ l, v = .f (.lst l) ∧ HC 0 l := by
  have p1 : gPow (.d (.int 10)) (.d (.int 60)) S = .ok (.d (.int (10 ^ 60))) S := o_pow (by decide +kernel)
  have p3 : gPow (.d (.int 10)) (.d (.int 18)) S = .ok (.d (.int (10 ^ 18))) S := o_pow (by decide +kernel)
  refine wp_fn rfl ?_
  refine wp_seqN fun K kn => ?_
  simp
  refine kn _ _ ?_
  clear kn K
  refine wp_seqN fun K kn => ?_
  have cell : ∃ x : Int, ∀ Q : Fw → Sto → Prop, (Q (.nx [some (.z (dI ns)), some (.d (.int k)), some (.d (.int x)), none]) S) → wp ((sIf (tst (ev2 gLt (evV 1) (evCall (g1 fLen) (aCons (evV 0) (aNil))))) (sSet 2 (ev2 gIx (evV 0) (evV 1))) (sNil)) [some (.z (dI ns)), some (.d (.int k)), some (.d (.int 0)), none] S) Q := by
    by_cases h : k < (ns.length : Int)
    · have hk : k.toNat < ns.length := by omega
      have e : atI (dI ns) k = some (.int ns[k.toNat]) := at_nat (by omega) (by rw [List.getElem?_map, List.getElem?_eq_getElem hk]; rfl)
      refine ⟨ns[k.toNat], fun Q q => ?_⟩
      simp [h, e]
      exact q
    · refine ⟨0, fun Q q => ?_⟩
      simp [h]
      exact q
  obtain ⟨x, cell⟩ := cell
  refine cell _ (kn _ _ ?_)
  clear kn K cell
  have b1 : ∀ b : Bool, (-18446744073709551616 : Int) < (if b = true then 1 else 0) ∧ ((if b = true then 1 else 0 : Int) < 18446744073709551616) := fun b => by cases b <;> decide
  have m1 : mulOk (10 ^ 60) (10 ^ 60) = true := by decide +kernel
  have m2 : mulOk (10 ^ 60 * 10 ^ 60) (10 ^ 60) = true := by decide +kernel
  have m3 : mulOk (10 ^ 60 * 10 ^ 60 * 10 ^ 60) (10 ^ 60) = true := by decide +kernel
  have p4 : (0 : Int) < 10 ^ 60 * 10 ^ 60 * 10 ^ 60 * 10 ^ 60 := by decide +kernel
  refine wp_seqN fun K kn => ?_
  simp only [e_sSet, e_2, e_V, e_K, e_Call, e_aCons, e_aNil, List.getElem?_cons_zero, List.getElem?_cons_succ, bind_ok, th_d, p1, p3, o_mul m1, o_mul m2, o_mul m3, o_mod p4, o_ge, g_intB, o_mulR (b1 _).1 (b1 _).2, wp_ok, List.set_cons_zero, List.set_cons_succ]
  refine kn _ _ ?_
  clear kn K
  simp
  exact ⟨_, _, _, rfl, mod_in _ _ (by decide), by decide, by decide⟩
theorem pop_c {S : Sto} {n : Nat} {ds : List PyData} {k : Int} {y : PyData} (h : S[n]? = some (.lst ds)) (k0 : 0 ≤ k) (k1 : k < 1000000) (e : ds[k.toNat]? = some y) : gPop (.c n) [.d (.int k)] S = .ok (.d y) (S.set n (.lst (ds.eraseIdx k.toNat))) := by
  unfold gPop cellL
  dsimp only
  rw [h]
  dsimp only
  rw [if_pos ⟨by omega, by omega⟩]
  have hl := (List.getElem?_eq_some_iff.mp e).1
  have e2 : seqIndex? k ds.length = some k.toNat := by
    unfold seqIndex?
    have h0 : ¬ k < 0 := by omega
    simp [h0, k0]
    omega
  rw [e2]
  dsimp only
  rw [e]
end Z
set_option Elab.async false
set_option linter.all false
set_option maxRecDepth 100000
set_option maxHeartbeats 1000000
namespace Z
open PySem PySem.Spec PyProof.Rows L2 MV
/-! names given to places -/
theorem repr_W {S : Sto} {W : Web} (h1 : ∀ a ∈ W.1, -1000 ≤ a ∧ a ≤ 1000) (h : ∀ p ∈ W.2, (-1000 ≤ p.1 ∧ p.1 ≤ 1000) ∧ -1000 ≤ p.2 ∧ p.2 ≤ 1000) (hl1 : W.1.length ≤ 1000) (hl : W.2.length ≤ 1000) : gRepr [.d (pW W)] S = .ok (.d (.str (pW W).shown)) S := by
  have t1 : Txt (pT W.1) _ := txt_tup (enc := PyData.int) (n := 0) fun p hp => txt_int (h1 p hp)
  have t2 : Txt (pTs W.2) _ := txt_tup (enc := pP) (n := 2) fun p hp => txt_P (h p hp).1 (h p hp).2
  have t : Txt (pW W) _ := txt_tup (enc := id) (n := 4000) (xs := [pT W.1, pTs W.2]) fun x hx => by
    simp at hx
    rcases hx with rfl | rfl
    · exact ⟨t1.1, t1.2.1, Nat.le_trans t1.2.2 (by omega)⟩
    · exact ⟨t2.1, t2.2.1, Nat.le_trans t2.2.2 (by omega)⟩
  have f := t.fits (by show 4001 * 2 ≤ 2 ^ 20; decide)
  exact repr_of rfl ⟨encW.lay W, f.1, f.2, Nat.le_trans (encW.dep W) (by decide)⟩
def callF (P N : List Int) (a : Int) : Int := N.getD (P.idxOf a) 0
theorem call_mem {P N : List Int} (hl : P.length = N.length) {a : Int} (h : a ∈ P) : callF P N a ∈ N := by
  have hi := List.idxOf_lt_length_of_mem h
  have e : callF P N a = N[P.idxOf a]'(by omega) := by unfold callF; rw [List.getD_eq_getElem?_getD, List.getElem?_eq_getElem (by omega)]; rfl
  rw [e]; exact List.getElem_mem _
theorem look_call {P N : List Int} (nd : P.Nodup) (hl : P.length = N.length) {a : Int} (h : a ∈ P) : look (dK (P.zip (dI N))) (.inl a) = some (.int (callF P N a)) := by
  have hi := List.idxOf_lt_length_of_mem h
  refine look_zip nd (i := P.idxOf a) (by rw [List.getElem?_eq_getElem hi, List.getElem_idxOf hi]) ?_
  unfold callF
  rw [List.getElem?_map, List.getD_eq_getElem?_getD, List.getElem?_eq_getElem (by omega)]
  rfl
theorem ix_D {S : Sto} {n : Nat} {ps : List (PyData × PyData)} {k : Int} {y : PyData} (h : S[n]? = some (.dic ps)) (e : look ps (.inl k) = some y) : gIx (.c n) (.d (.int k)) S = .ok (.d y) S := by
  unfold gIx
  simp [asM, h, e]
def tieF (P N : List Int) (t : Int × Int) : Int × Int := (if callF P N t.2 < callF P N t.1 then callF P N t.2 else callF P N t.1, if callF P N t.2 > callF P N t.1 then callF P N t.2 else callF P N t.1)
theorem call_map {Q : List Int} (g : Int → Int) {a : Int} (h : a ∈ Q) : callF Q (Q.map g) a = g a := by
  have hi := List.idxOf_lt_length_of_mem h
  unfold callF
  rw [List.getD_eq_getElem?_getD, List.getElem?_map, List.getElem?_eq_getElem hi, List.getElem_idxOf hi]
  rfl
theorem call_back {P N : List Int} (np : P.Nodup) (nn : N.Nodup) (hl : P.length = N.length) {a : Int} (h : a ∈ P) : callF N P (callF P N a) = a := by
  have hi := List.idxOf_lt_length_of_mem h
  have e : callF P N a = N[P.idxOf a]'(by omega) := by unfold callF; rw [List.getD_eq_getElem?_getD, List.getElem?_eq_getElem (by omega)]; rfl
  rw [e]
  unfold callF
  rw [nn.idxOf_getElem, List.getD_eq_getElem?_getD, List.getElem?_eq_getElem hi, List.getElem_idxOf hi]
  rfl
theorem map_call {P N : List Int} (nn : N.Nodup) (hl : P.length = N.length) : N.map (callF N P) = P := by
  refine List.ext_getElem (by simp [hl]) fun i h1 h2 => ?_
  rw [List.getElem_map]
  unfold callF
  rw [nn.idxOf_getElem, List.getD_eq_getElem?_getD, List.getElem?_eq_getElem h2]
  rfl
theorem isort2 (x y : Int) : isort [x, y] = [if y < x then y else x, if y > x then y else x] := by
  by_cases h : y < x
  · have h2 : ¬ y > x := by omega
    rw [if_pos h, if_neg h2]
    exact rise_ext (isort_rise (by simp; omega)) (by simp; exact h) fun a => by simp [or_comm]
  · by_cases e : x = y
    · subst e
      simp
      exact List.mergeSort_of_pairwise (by simp)
    · have h2 : y > x := by omega
      rw [if_neg h, if_pos h2]
      exact isort_of_rise (by simp; omega)
theorem sort2 (x y : Int) : pT (isort [x, y]) = pP (if y < x then y else x, if y > x then y else x) := by rw [isort2]; rfl
theorem tie_mem {P N : List Int} (hl : P.length = N.length) {t : Int × Int} (h1 : t.1 ∈ P) (h2 : t.2 ∈ P) : (tieF P N t).1 ∈ N ∧ (tieF P N t).2 ∈ N := by
  have a := call_mem hl h1
  have b := call_mem hl h2
  unfold tieF
  constructor <;> dsimp only <;> split <;> assumption
theorem sub_all {α : Type} [DecidableEq α] : ∀ {xs ys : List α}, xs.Nodup → (∀ x ∈ xs, x ∈ ys) → ys.length ≤ xs.length → ∀ y ∈ ys, y ∈ xs
  | [], ys, _, _, hl, y, hy => by
    have : ys = [] := List.length_eq_zero_iff.mp (by simpa using hl)
    rw [this] at hy; cases hy
  | x :: xs, ys, nd, hs, hl, y, hy => by
    have hx := hs x (by simp)
    have nx := (List.nodup_cons.mp nd).1
    by_cases e : y = x
    · rw [e]; simp
    · refine List.mem_cons_of_mem _ (sub_all (xs := xs) (ys := ys.erase x) (List.nodup_cons.mp nd).2 (fun z hz => ?_) ?_ y ((List.mem_erase_of_ne e).mpr hy))
      · exact (List.mem_erase_of_ne fun q => nx (by rw [← q]; exact hz)).mpr (hs z (List.mem_cons_of_mem _ hz))
      · rw [List.length_erase_of_mem hx]
        simp at hl
        omega
end Z
set_option Elab.async false
set_option linter.all false
set_option maxRecDepth 100000
set_option maxHeartbeats 1000000
namespace Z
open PySem PySem.Spec PyProof.Rows L2 MV
/-! the search -/
def tiedB (W : Web) (a b : Int) : Bool := decide ((if b < a then b else a, if b > a then b else a) ∈ W.2)
theorem in_Ts (W : Web) (a b : Int) (S : Sto) : gIn (.d (.tuple [.int a, .int b])) (.d (pTs W.2)) S = .ok (.d (.bool (decide ((a, b) ∈ W.2)))) S := encP.inT (a, b) W.2
theorem is_tied_eq (W : Web) (a b : Int) (S : Sto) : m_is_tied [.d (pW W), .d (.int a), .d (.int b)] S = .ok (.d (.bool (tiedB W a b))) S := by
  refine fn_eq rfl (S1 := S) ?_ (fun r h => by rw [← h]; simp)
  simp [y_is_tied, in_Ts, tiedB]
theorem l_tied_eq (W : Web) (a b : Int) (S : Sto) : m_l_tied [.d (pW W), .d (.int a), .d (.int b)] S = .ok (.d (.bool (tiedB W a b))) S := by
  refine fn_eq rfl (S1 := S) ?_ (fun r h => by rw [← h]; simp)
  simp [y_l_tied, in_Ts, tiedB]
def at1 (V : Web) (ns : List Int) : Int := V.1.getD ns.length 0
def okZ (V W : Web) (ns : List Int) (x : Int) (q : Int × Int) : Bool := !(decide (q.2 = x) || (tiedB V q.1 (at1 V ns) != tiedB W q.2 x))
def fitB (V W : Web) (ns : List Int) (x : Int) : Bool := (V.1.zip ns).all (okZ V W ns x)
theorem zip_I (P N : List Int) : zipD (dI P) (dI N) = (P.zip N).map pP := by
  unfold zipD
  rw [List.zip_map, List.map_map]
  rfl
theorem at1_at {V : Web} {ns : List Int} (h : ns.length < V.1.length) : atI (dI V.1) (ns.length : Int) = some (.int (at1 V ns)) := by
  refine at_nat (by omega) ?_
  rw [List.getElem?_map]
  unfold at1
  rw [List.getD_eq_getElem?_getD]
  simp [h]
theorem fits_wp (V W : Web) (ns : List Int) (x : Int) (S : Sto) (h : ns.length < V.1.length) :
    wp (m_fits [.d (pW V), .d (pW W), .d (pT ns), .d (.int x)] S) fun v S' => v = .d (.bool (fitB V W ns x)) ∧ S' = S := by
  refine wp_fn rfl ?_
  refine wp_seqN fun K kn => ?_
  have e3 : ∀ (x : Int) (T : Sto), gIx (.d (pT V.1)) (.d (.int x)) T = (match atI (dI V.1) x with | some d => .ok (.d d) T | none => .no) := fun _ _ => rfl
  simp [e3, at1_at h]
  refine kn _ _ ?_
  clear kn K
  refine wp_seq fun K kn kr => ?_
  refine wp_forK (fun (pre : List (Int × Int)) ρ T => ∃ o5 o6, ρ = [some (.d (pW V)), some (.d (pW W)), some (.d (pT ns)), some (.d (.int x)), some (.d (.int (at1 V ns))), o5, o6] ∧ T = S ∧ pre.all (okZ V W ns x) = true) (V.1.zip ns) pP (s := ⟨zipD (dI V.1) (dI ns), []⟩) (S1 := S) (by simp [gZip]) (zip_I _ _) (fun _ _ _ _ => gok_nil) ⟨none, none, rfl, rfl, rfl⟩ ?_ ?_
  · rintro pre q post ρ T e ⟨o5, o6, rfl, rfl, hall⟩
    refine ⟨_, rfl, fun K1 k1 k2 => ?_⟩
    have eqI : ∀ (a b : Int) (T : Sto), gEq (.d (.int a)) (.d (.int b)) T = .ok (.d (.bool (decide (a = b)))) T := fun a b T => encInt.eq a b
    have neB : ∀ (a b : Bool) (T : Sto), gNe (.d (.bool a)) (.d (.bool b)) T = .ok (.d (.bool (!decide (a = b)))) T := fun a b T => encBool.ne a b
    have fl : okZ V W ns x q = false → fitB V W ns x = false := fun h => by
      unfold fitB
      rw [e, List.all_append, List.all_cons, h]
      simp
    by_cases c1 : q.2 = x
    · have hf : fitB V W ns x = false := fl (by simp [okZ, c1])
      simp [eqI, c1]
      exact k2 _ _ (kr _ _ (wp_out_d ⟨by rw [hf], by simp⟩))
    · simp [eqI, c1, is_tied_eq, neB]
      by_cases c2 : tiedB V q.1 (at1 V ns) = tiedB W q.2 x
      · simp [c2]
        refine k1 _ _ ⟨_, _, rfl, rfl, ?_⟩
        rw [List.all_append, hall]
        simp [okZ, c1, c2]
      · have hf : fitB V W ns x = false := fl (by simp [okZ, c1, c2])
        simp [c2]
        exact k2 _ _ (kr _ _ (wp_out_d ⟨by rw [hf], by simp⟩))
  · rintro ρ T ⟨o5, o6, rfl, rfl, hall⟩
    refine kn _ _ ?_
    simp [fitB, hall]
/-- the search, name by name -/
def tryN (V W : Web) (ns : List Int) (next : List Int → Option (List Int)) (x : Int) : Option (List Int) := if fitB V W ns x = true then next (ns ++ [x]) else none
def seek (V W : Web) : Nat → List Int → Option (List Int)
  | 0, _ => none
  | n + 1, ns => if ns.length = V.1.length then some ns else W.1.findSome? (tryN V W ns (seek V W n))
def optD : Option (List Int) → PyData
  | none => .none
  | some ns => pT ns
theorem isnone_T {ns : List Int} : isNone (.d (pT ns)) = false := rfl
theorem some_at {α β : Type} {f : α → Option β} {pre post : List α} {x : α} {y : β} (h : ∀ z ∈ pre, f z = none) (hx : f x = some y) : (pre ++ x :: post).findSome? f = some y := by
  rw [List.findSome?_append, List.findSome?_eq_none_iff.mpr h, List.findSome?_cons, hx]
  rfl
theorem notN_eq (d : PyData) (T : Sto) : gNotN (.d d) (.d .none) T = .ok (.d (.bool (!isNone (.d d)))) T := rfl
theorem named_wp (V W : Web) : ∀ (n : Nat) (ns : List Int) (S : Sto), V.1.length < n + ns.length → ns.length ≤ V.1.length → V.1.length ≤ 900 →
    wp (m_named_on n [.d (pW V), .d (pW W), .d (pT ns)] S) fun v S' => v = .d (optD (seek V W n ns)) ∧ S' = S
  | 0, ns, S, h, h2, _ => by omega
  | n + 1, ns, S, h, h2, h9 => by
    have eqI : ∀ (a b : Int) (T : Sto), gEq (.d (.int a)) (.d (.int b)) T = .ok (.d (.bool (decide (a = b)))) T := fun a b T => encInt.eq a b
    unfold m_named_on
    refine wp_fn rfl ?_
    refine wp_seq fun K kn kr => ?_
    by_cases hc : ns.length = V.1.length
    · simp [eqI, hc]
      refine kr _ _ (wp_out_d ⟨?_, by simp⟩)
      unfold seek
      rw [if_pos hc]
      rfl
    have hc' : ¬ ((ns.length : Int) = (V.1.length : Int)) := by omega
    simp [eqI, hc']
    refine kn _ _ ?_
    clear kn kr K
    refine wp_seq fun K kn kr => ?_
    have es : seek V W (n + 1) ns = W.1.findSome? (tryN V W ns (seek V W n)) := by
      rw [seek, if_neg hc]
    refine wp_forK (fun (pre : List Int) ρ T => ∃ o3 o4, ρ = [some (.d (pW V)), some (.d (pW W)), some (.d (pT ns)), o3, o4] ∧ T = S ∧ ∀ z ∈ pre, tryN V W ns (seek V W n) z = none) W.1 PyData.int (s := ⟨dI W.1, []⟩) (S1 := S) (by simp) rfl (fun _ _ _ _ => gok_nil) ⟨none, none, rfl, rfl, by simp⟩ ?_ ?_
    · rintro pre x post ρ T e ⟨o3, o4, rfl, rfl, hall⟩
      refine ⟨_, rfl, fun K1 k1 k2 => ?_⟩
      simp [wp_bind]
      refine (fits_wp V W ns x T (by omega)).mono ?_
      rintro v T2 ⟨rfl, rfl⟩
      by_cases hf : fitB V W ns x = true
      · have et : tryN V W ns (seek V W n) x = seek V W n (ns ++ [x]) := by unfold tryN; rw [if_pos hf]
        have ad : gAdd (.d (pT ns)) (.d (.tuple [.int x])) T2 = .ok (.d (pT (ns ++ [x]))) T2 := by
          show gAdd (.d (.tuple (dI ns))) _ _ = _
          have hz := hz
          rw [o_addT (by simp; omega)]
          simp [pT]
        simp [hf, ad, wp_bind, notN_eq]
        refine (named_wp V W n (ns ++ [x]) T2 (by simp; omega) (by simp; omega) h9).mono ?_
        rintro v T3 ⟨rfl, rfl⟩
        rw [← et]
        cases hs : tryN V W ns (seek V W n) x with
        | none =>
          simp [optD, isNone]
          refine k1 _ _ ⟨_, _, rfl, rfl, fun z hz => ?_⟩
          rcases List.mem_append.mp hz with hz | hz
          · exact hall z hz
          · rw [List.mem_singleton.mp hz]; exact hs
        | some ys =>
          simp [optD, isnone_T]
          refine k2 _ _ (kr _ _ (wp_out_d ⟨?_, by simp⟩))
          rw [es, e, some_at hall hs]
          rfl
      · have hf : fitB V W ns x = false := by simpa using hf
        simp [hf]
        refine k1 _ _ ⟨_, _, rfl, rfl, fun z hz => ?_⟩
        rcases List.mem_append.mp hz with hz | hz
        · exact hall z hz
        · rw [List.mem_singleton.mp hz]; unfold tryN; rw [hf]; rfl
    · rintro ρ T ⟨o3, o4, rfl, rfl, hall⟩
      refine kn _ _ ?_
      simp
      rw [es, List.findSome?_eq_none_iff.mpr hall]
      rfl
def agB (V W : Web) (ns : List Int) (x : Int) (j : Nat) : Bool := decide (tiedB V (V.1.getD j 0) (at1 V ns) = tiedB W (ns.getD j 0) x)
theorem fit_ag (V W : Web) (ns : List Int) (x : Int) (hx : x ∉ ns) (hl : ns.length ≤ V.1.length) : ((List.range ns.length).map (agB V W ns x)).all id = fitB V W ns x := by
  rw [Bool.eq_iff_iff]
  unfold fitB
  rw [List.all_eq_true, List.all_eq_true]
  constructor
  · intro h q hq
    obtain ⟨j, hj, e⟩ := List.mem_iff_getElem.mp hq
    rw [List.length_zip] at hj
    have h1 : j < V.1.length := by omega
    have h2 : j < ns.length := by omega
    rw [List.getElem_zip] at e
    have := h (agB V W ns x j) (List.mem_map_of_mem (List.mem_range.mpr h2))
    unfold agB at this
    rw [List.getD_eq_getElem?_getD, List.getElem?_eq_getElem h1, List.getD_eq_getElem?_getD, List.getElem?_eq_getElem h2] at this
    subst e
    have ne : ¬ ns[j] = x := fun z => hx (z ▸ List.getElem_mem h2)
    simp at this
    simp [okZ, ne, this]
  · intro h b hb
    obtain ⟨j, hj, rfl⟩ := List.mem_map.mp hb
    rw [List.mem_range] at hj
    have h1 : j < V.1.length := by omega
    have := h (V.1[j], ns[j]) (by rw [← List.getElem_zip (h := by rw [List.length_zip]; omega)]; exact List.getElem_mem _)
    unfold agB
    rw [List.getD_eq_getElem?_getD, List.getElem?_eq_getElem h1, List.getD_eq_getElem?_getD, List.getElem?_eq_getElem hj]
    simp [okZ] at this
    simp [this.2]
theorem try_in (V W : Web) (ns : List Int) (f : List Int → Option (List Int)) (x : Int) (hx : x ∈ ns) (hl : ns.length ≤ V.1.length) : tryN V W ns f x = none := by
  have : fitB V W ns x = false := by
    unfold fitB
    rw [List.all_eq_false]
    obtain ⟨j, hj, e⟩ := List.mem_iff_getElem.mp hx
    have h1 : j < V.1.length := by omega
    refine ⟨(V.1[j], ns[j]), by rw [← List.getElem_zip (h := by rw [List.length_zip]; omega)]; exact List.getElem_mem _, ?_⟩
    simp [okZ, e]
  unfold tryN
  rw [this]
  rfl
theorem some_filter {α β : Type} {f : α → Option β} {p : α → Bool} : ∀ {l : List α}, (∀ z ∈ l, p z = false → f z = none) → (l.filter p).findSome? f = l.findSome? f
  | [], _ => rfl
  | x :: l, h => by
    have ih := some_filter (f := f) (p := p) (l := l) fun z hz => h z (List.mem_cons_of_mem _ hz)
    rw [List.filter_cons]
    cases hp : p x with
    | true => rw [if_pos rfl, List.findSome?_cons, List.findSome?_cons, ih]
    | false => rw [if_neg Bool.false_ne_true, List.findSome?_cons, h x (by simp) hp, ih]
theorem least_wp (V W : Web) : ∀ (n : Nat) (ns : List Int) (S : Sto), V.1.length < n + ns.length → ns.length ≤ V.1.length → V.1.length ≤ 900 → W.1.length ≤ 900 →
    wp (m_l_least_names n [.d (pW V), .d (pW W), .d (pT ns)] S) fun v S' => v = .d (optD (seek V W n ns)) ∧ S' = S
  | 0, ns, S, h, h2, _, _ => by omega
  | n + 1, ns, S, h, h2, h9, w9 => by
    have hz := hz
    have eqI : ∀ (a b : Int) (T : Sto), gEq (.d (.int a)) (.d (.int b)) T = .ok (.d (.bool (decide (a = b)))) T := fun a b T => encInt.eq a b
    have eqB : ∀ (a b : Bool) (T : Sto), gEq (.d (.bool a)) (.d (.bool b)) T = .ok (.d (.bool (decide (a = b)))) T := fun a b T => encBool.eq a b
    have niT : ∀ (a : Int) (T : Sto), gNotIn (.d (.int a)) (.d (pT ns)) T = .ok (.d (.bool (!decide (a ∈ ns)))) T := fun a T => encInt.notInT a ns
    unfold m_l_least_names
    refine wp_fn rfl ?_
    refine wp_seqN fun K kn => ?_
    simp
    refine kn _ _ ?_
    clear kn K
    refine wp_seq fun K kn kr => ?_
    by_cases hc : ns.length = V.1.length
    · simp [eqI, hc]
      refine kr _ _ (wp_out_d ⟨?_, by simp⟩)
      unfold seek
      rw [if_pos hc]
      rfl
    have hc' : ¬ ((ns.length : Int) = (V.1.length : Int)) := by omega
    simp [eqI, hc']
    refine kn _ _ ?_
    clear kn kr K
    refine wp_seq fun K kn kr => ?_
    have es : seek V W (n + 1) ns = (W.1.filter fun a => !decide (a ∈ ns)).findSome? (tryN V W ns (seek V W n)) := by
      rw [seek, if_neg hc, some_filter]
      intro z _ hz
      exact try_in V W ns _ z (by simpa using hz) h2
    generalize hF : (W.1.filter fun a => !decide (a ∈ ns)) = F at es
    have memF : ∀ z ∈ F, z ∉ ns := fun z hz => by
      rw [← hF] at hz
      simpa using (List.mem_filter.mp hz).2
    refine wp_forK (fun (pre : List Int) ρ T => ∃ o4 o5 o6 o7, ρ = [some (.d (pW V)), some (.d (pW W)), some (.d (pT ns)), some (.d (.int ns.length)), o4, o5, o6, o7] ∧ T = S ∧ ∀ z ∈ pre, tryN V W ns (seek V W n) z = none) F PyData.int (s := ⟨dI F, []⟩) (S1 := S) ?_ rfl (fun _ _ _ _ => gok_nil) ⟨none, none, none, none, rfl, rfl, by simp⟩ ?_ ?_
    · simp
      rw [comp_pure W.1 PyData.int (fun a => !decide (a ∈ ns)) PyData.int (s := ⟨dI W.1, []⟩) (by simp) rfl gok_nil (by omega) (fun t ht => ⟨_, by simp [wipeE]; rfl, by simp [niT], fun _ => ⟨_, by simp; rfl, rfl⟩⟩)]
      simp [hF]
    · rintro pre x post ρ T e ⟨o4, o5, o6, o7, rfl, rfl, hall⟩
      have hx : x ∉ ns := memF x (by rw [e]; simp)
      refine ⟨_, rfl, fun K1 k1 k2 => ?_⟩
      refine wp_seqN fun K2 k3 => ?_
      have e3 : ∀ (P : List Int) (x : Int) (T : Sto), gIx (.d (pT P)) (.d (.int x)) T = (match atI (dI P) x with | some d => .ok (.d d) T | none => .no) := fun _ _ _ => rfl
      simp
      rw [comp_map (List.range ns.length) (fun (i : Nat) => PyData.int (0 + i)) (fun j => .bool (agB V W ns x j)) (s := ⟨iota 0 ns.length, []⟩) (by simp; rw [e_range1 (by omega) (by omega)]; simp) rfl gok_nil (by simp; omega)
        (fun t ht => by
          rw [List.mem_range] at ht
          have i1 : atI (dI V.1) (t : Int) = some (.int (V.1.getD t 0)) := at_nat (by omega) (by simp [List.getD_eq_getElem?_getD, show t < V.1.length by omega])
          have i2 : atI (dI ns) (t : Int) = some (.int (ns.getD t 0)) := at_nat (by omega) (by simp [List.getD_eq_getElem?_getD, ht])
          exact ⟨_, by simp [wipeE]; rfl, by simp, _, by simp [e3, i1, i2, at1_at (show ns.length < V.1.length by omega), l_tied_eq, eqB]; rfl, by simp [agB, List.getD_eq_getElem?_getD]⟩)]
      simp
      refine k3 _ _ ?_
      clear k3 K2
      have hA : ∀ T : Sto, g1 fAll [.d (.list ((List.range ns.length).map fun j => PyData.bool (agB V W ns x j)))] T = .ok (.d (.bool (fitB V W ns x))) T := fun T => by
        rw [g_all (bs := (List.range ns.length).map (agB V W ns x)) (by rw [List.map_map]; rfl), fit_ag V W ns x hx h2]
      refine wp_seqN fun K2 k3 => ?_
      simp [hA]
      by_cases hf : fitB V W ns x = true
      · have et : tryN V W ns (seek V W n) x = seek V W n (ns ++ [x]) := by unfold tryN; rw [if_pos hf]
        have ad : gAdd (.d (pT ns)) (.d (.tuple [.int x])) T = .ok (.d (pT (ns ++ [x]))) T := by
          show gAdd (.d (.tuple (dI ns))) _ _ = _
          rw [o_addT (by simp; omega)]
          simp [pT]
        simp [hf, ad, wp_bind, notN_eq]
        refine (least_wp V W n (ns ++ [x]) T (by simp; omega) (by simp; omega) h9 w9).mono ?_
        rintro v T3 ⟨rfl, rfl⟩
        simp
        refine k3 _ _ ?_
        clear k3 K2
        rw [← et]
        cases hs : tryN V W ns (seek V W n) x with
        | none =>
          simp [notN_eq, optD, isNone]
          refine k1 _ _ ⟨_, _, _, _, rfl, rfl, fun z hz => ?_⟩
          rcases List.mem_append.mp hz with hz | hz
          · exact hall z hz
          · rw [List.mem_singleton.mp hz]; exact hs
        | some ys =>
          simp [notN_eq, optD, isnone_T]
          refine k2 _ _ (kr _ _ (wp_out_d ⟨?_, by simp⟩))
          rw [es, e, some_at hall hs]
          rfl
      · have hf : fitB V W ns x = false := by simpa using hf
        simp [hf]
        refine k3 _ _ ?_
        clear k3 K2
        simp [notN_eq, isNone]
        refine k1 _ _ ⟨_, _, _, _, rfl, rfl, fun z hz => ?_⟩
        rcases List.mem_append.mp hz with hz | hz
        · exact hall z hz
        · rw [List.mem_singleton.mp hz]; unfold tryN; rw [hf]; rfl
    · rintro ρ T ⟨o4, o5, o6, o7, rfl, rfl, hall⟩
      refine kn _ _ ?_
      simp
      rw [es, List.findSome?_eq_none_iff.mpr hall]
      rfl
/-! alike, as both find it -/
def alikeO (V W : Web) : Option (List Int) := if V.1.length = W.1.length ∧ V.2.length = W.2.length then seek V W 40 [] else none
theorem alike_wp (V W : Web) (S : Sto) (h : V.1.length ≤ 24) : wp (m_alike [.d (pW V), .d (pW W)] S) fun v S' => v = .d (optD (alikeO V W)) ∧ S' = S := by
  have neI : ∀ (a b : Int) (T : Sto), gNe (.d (.int a)) (.d (.int b)) T = .ok (.d (.bool (!decide (a = b)))) T := fun a b T => encInt.ne a b
  refine wp_fn rfl ?_
  refine wp_seq fun K kn kr => ?_
  by_cases h1 : V.1.length = W.1.length
  · by_cases h2 : V.2.length = W.2.length
    · simp [neI, h1, h2]
      refine kn _ _ ?_
      simp [wp_bind]
      refine (named_wp V W 40 [] S (by simp; omega) (by simp) (by omega)).mono ?_
      rintro v T ⟨rfl, rfl⟩
      simp [alikeO, h1, h2]
    · have h2' : ¬ ((V.2.length : Int) = (W.2.length : Int)) := by omega
      simp [neI, h1, h2']
      exact kr _ _ (wp_out_d ⟨by simp [alikeO, h2, optD], by simp⟩)
  · have h1' : ¬ ((V.1.length : Int) = (W.1.length : Int)) := by omega
    simp [neI, h1']
    exact kr _ _ (wp_out_d ⟨by simp [alikeO, h1, optD], by simp⟩)
theorem due_wp (V W : Web) (S : Sto) (h : V.1.length ≤ 24) : wp (m_l_due_names [.d (pW V), .d (pW W)] S) fun v S' => v = .d (optD (alikeO V W)) ∧ S' = S := by
  have neI : ∀ (a b : Int) (T : Sto), gNe (.d (.int a)) (.d (.int b)) T = .ok (.d (.bool (!decide (a = b)))) T := fun a b T => encInt.ne a b
  refine wp_fn rfl ?_
  refine wp_seq fun K kn kr => ?_
  by_cases h1 : V.1.length = W.1.length
  · by_cases h2 : V.2.length = W.2.length
    · simp [neI, h1, h2]
      refine kn _ _ ?_
      simp [wp_bind]
      refine (least_wp V W 40 [] S (by simp; omega) (by simp) (by omega) (by omega)).mono ?_
      rintro v T ⟨rfl, rfl⟩
      simp [alikeO, h1, h2]
    · have h2' : ¬ ((V.2.length : Int) = (W.2.length : Int)) := by omega
      simp [neI, h1, h2']
      exact kr _ _ (wp_out_d ⟨by simp [alikeO, h2, optD], by simp⟩)
  · have h1' : ¬ ((V.1.length : Int) = (W.1.length : Int)) := by omega
    simp [neI, h1']
    exact kr _ _ (wp_out_d ⟨by simp [alikeO, h1, optD], by simp⟩)
/-! what is found is a likeness -/
structure Good (V W : Web) (ns : List Int) : Prop where
  nd : ns.Nodup
  sub : ∀ y ∈ ns, y ∈ W.1
  len : ns.length ≤ V.1.length
  ties : ∀ i j, j < i → i < ns.length → tiedB V (V.1.getD j 0) (V.1.getD i 0) = tiedB W (ns.getD j 0) (ns.getD i 0)
theorem Good.step {V W : Web} {ns : List Int} {x : Int} (g : Good V W ns) (hl : ns.length < V.1.length) (hx : x ∈ W.1) (hf : fitB V W ns x = true) : Good V W (ns ++ [x]) := by
  unfold fitB at hf
  rw [List.all_eq_true] at hf
  have key : ∀ (j : Nat) (hj : j < ns.length), ns[j] ≠ x ∧ tiedB V (V.1.getD j 0) (at1 V ns) = tiedB W ns[j] x := by
    intro j hj
    have h1 : j < V.1.length := by omega
    have := hf (V.1[j], ns[j]) (by rw [← List.getElem_zip (h := by rw [List.length_zip]; omega)]; exact List.getElem_mem _)
    simp [okZ] at this
    refine ⟨this.1, ?_⟩
    rw [List.getD_eq_getElem?_getD, List.getElem?_eq_getElem h1]
    simpa using this.2
  refine ⟨?_, ?_, by simp; omega, ?_⟩
  · rw [List.nodup_append]
    refine ⟨g.nd, by simp, fun a ha b hb e => ?_⟩
    rw [List.mem_singleton.mp hb] at e
    subst e
    obtain ⟨j, hj, e⟩ := List.mem_iff_getElem.mp ha
    exact (key j hj).1 e
  · intro y hy
    rcases List.mem_append.mp hy with hy | hy
    · exact g.sub y hy
    · rw [List.mem_singleton.mp hy]; exact hx
  · intro i j hij hi
    simp at hi
    have hj : j < ns.length := by omega
    have ej : (ns ++ [x]).getD j 0 = ns.getD j 0 := by rw [List.getD_eq_getElem?_getD, List.getElem?_append_left hj, ← List.getD_eq_getElem?_getD]
    by_cases h : i < ns.length
    · have ei : (ns ++ [x]).getD i 0 = ns.getD i 0 := by rw [List.getD_eq_getElem?_getD, List.getElem?_append_left h, ← List.getD_eq_getElem?_getD]
      rw [ej, ei]
      exact g.ties i j hij h
    · have e : i = ns.length := by omega
      subst e
      have ei : (ns ++ [x]).getD ns.length 0 = x := by simp [List.getD_eq_getElem?_getD]
      have ej2 : ns.getD j 0 = ns[j] := by simp [List.getD_eq_getElem?_getD, hj]
      rw [ej, ei, ej2]
      exact (key j hj).2
theorem seek_good {V W : Web} : ∀ (n : Nat) {ns ys : List Int}, Good V W ns → seek V W n ns = some ys → Good V W ys ∧ ys.length = V.1.length
  | 0, _, _, _, h => by cases h
  | n + 1, ns, ys, g, h => by
    unfold seek at h
    split at h
    · rename_i e
      cases h
      exact ⟨g, e⟩
    · rename_i e
      obtain ⟨x, hx, hy⟩ := List.exists_of_findSome?_eq_some h
      unfold tryN at hy
      split at hy
      · rename_i hf
        have := g.len
        exact seek_good n (g.step (by omega) hx hf) hy
      · cases hy
theorem tied_tie {V W : Web} {ys : List Int} (hV : IsWeb V) (g : Good V W ys) (hl : ys.length = V.1.length) {t : Int × Int} (ht : t ∈ V.2) : tieF V.1 ys t ∈ W.2 := by
  obtain ⟨h1, h2, h3⟩ := hV.lt t ht
  have ia := List.idxOf_lt_length_of_mem h2
  have ib := List.idxOf_lt_length_of_mem h3
  have lt : V.1.idxOf t.1 < V.1.idxOf t.2 := by
    rcases Nat.lt_trichotomy (V.1.idxOf t.1) (V.1.idxOf t.2) with h | h | h
    · exact h
    · exfalso
      have e1 := List.getElem_idxOf ia
      have e2 := List.getElem_idxOf ib
      simp only [h] at e1
      omega
    · exfalso
      have := List.pairwise_iff_getElem.mp hV.rp _ _ ib ia h
      rw [List.getElem_idxOf ia, List.getElem_idxOf ib] at this
      omega
  have q := g.ties _ _ lt (by omega)
  have e1 : V.1.getD (V.1.idxOf t.1) 0 = t.1 := by rw [List.getD_eq_getElem?_getD, List.getElem?_eq_getElem ia, List.getElem_idxOf ia]; rfl
  have e2 : V.1.getD (V.1.idxOf t.2) 0 = t.2 := by rw [List.getD_eq_getElem?_getD, List.getElem?_eq_getElem ib, List.getElem_idxOf ib]; rfl
  rw [e1, e2] at q
  have hb : tiedB V t.1 t.2 = true := by
    have n1 : ¬ t.2 < t.1 := by omega
    have n2 : t.2 > t.1 := h1
    unfold tiedB
    rw [if_neg n1, if_pos n2]
    exact decide_eq_true ht
  rw [hb] at q
  exact of_decide_eq_true q.symm
theorem like_law {V W : Web} {ys : List Int} (hV : IsWeb V) (hW : IsWeb W) (h1 : V.1.length = W.1.length) (h2 : V.2.length = W.2.length) (g : Good V W ys) (hl : ys.length = V.1.length) :
    isort ys = W.1 ∧ psort (V.2.map (tieF V.1 ys)) = W.2 := by
  have np := hV.rp.nodup
  have eN : V.1.length = ys.length := hl.symm
  constructor
  · exact rise_ext (isort_rise g.nd) hW.rp fun a => by
      rw [mem_isort]
      exact ⟨g.sub a, sub_all g.nd g.sub (by omega) a⟩
  · have inj : (V.2.map (tieF V.1 ys)).Nodup := by
      rw [List.nodup_iff_pairwise_ne, List.pairwise_map]
      refine hV.rt.imp_of_mem fun {a b} ha hb lt e => ?_
      obtain ⟨a1, a2, a3⟩ := hV.lt a ha
      obtain ⟨b1, b2, b3⟩ := hV.lt b hb
      have inj1 : ∀ {x y : Int}, x ∈ V.1 → y ∈ V.1 → callF V.1 ys x = callF V.1 ys y → x = y := fun {x y} hx hy e => by
        rw [← call_back np g.nd eN hx, e, call_back np g.nd eN hy]
      unfold tieF at e
      have ne : callF V.1 ys a.1 ≠ callF V.1 ys a.2 := fun z => by have := inj1 a2 a3 z; omega
      have ne' : callF V.1 ys b.1 ≠ callF V.1 ys b.2 := fun z => by have := inj1 b2 b3 z; omega
      simp only [Prod.mk.injEq] at e
      obtain ⟨e1, e2⟩ := e
      have key : (callF V.1 ys a.1 = callF V.1 ys b.1 ∧ callF V.1 ys a.2 = callF V.1 ys b.2) ∨ (callF V.1 ys a.1 = callF V.1 ys b.2 ∧ callF V.1 ys a.2 = callF V.1 ys b.1) := by
        split at e1 <;> split at e1 <;> split at e2 <;> split at e2 <;> omega
      unfold pLt at lt
      rcases key with ⟨k1, k2⟩ | ⟨k1, k2⟩
      · have := inj1 a2 b2 k1
        have := inj1 a3 b3 k2
        omega
      · have := inj1 a2 b3 k1
        have := inj1 a3 b2 k2
        omega
    have sub : ∀ t ∈ V.2.map (tieF V.1 ys), t ∈ W.2 := fun t ht => by
      obtain ⟨u, hu, rfl⟩ := List.mem_map.mp ht
      exact tied_tie hV g hl hu
    exact risep_ext (psort_rise inj) hW.rt fun a => by
      rw [mem_psort]
      exact ⟨sub a, sub_all inj sub (by simp; omega) a⟩
theorem called_wp (P N : List Int) (ts : List (Int × Int)) (S : Sto) (nd : P.Nodup) (hl : P.length = N.length) (ht : ∀ t ∈ ts, t.1 ∈ P ∧ t.2 ∈ P) (h1 : ts.length ≤ 1000) (h2 : N.length ≤ 1000) :
    wp (m_l_called_by [.d (pW (P, ts)), .d (pT N)] S) fun v S' => v = .d (pW (isort N, psort (ts.map (tieF P N)))) ∧ S' = S := by
  have hz := hz
  refine wp_fn rfl ?_
  refine wp_seqN fun K kn => ?_
  have e1 : gDictZip [.d (pT P), .d (pT N)] S = .ok (.f (.dic (dK (P.zip (dI N))))) S := dictZip_int (ys := dI N) nd (by simpa using hl)
  simp [e1]
  refine kn _ _ ?_
  clear kn K
  have hc : (S ++ [Cell.dic (dK (P.zip (dI N)))])[S.length]? = some (.dic (dK (P.zip (dI N)))) := by simp
  simp
  rw [sorted_int (t := true) (g := []) (ns := N) (by simp) (by omega)]
  simp
  rw [comp_map ts pP (fun t => pP (tieF P N t)) (s := ⟨dP ts, []⟩) (by simp) rfl gok_nil (by omega) (fun t ht' => by
    have q := ht t ht'
    have i1 := ix_D hc (look_call nd hl q.1)
    have i2 := ix_D hc (look_call nd hl q.2)
    have s2 : ∀ S, gSorted [.d (.list [.int (callF P N t.1), .int (callF P N t.2)])] S = .ok (.f (.lst (dI (isort [callF P N t.1, callF P N t.2])))) S := fun S => sorted_int (t := false) (g := []) rfl (by simp; omega)
    exact ⟨_, by simp [wipeE]; rfl, by simp, _, by simp [i1, i2, s2]; rfl, by exact congrArg Val.d (sort2 _ _)⟩)]
  simp
  have e2 : List.map (fun t => pP (tieF P N t)) ts = dP (ts.map (tieF P N)) := by simp
  rw [e2]
  rw [sorted_pair (t := false) (g := []) (ps := ts.map (tieF P N)) (by simp) (by simp; omega)]
  simp
  rfl
/-! the webs of the law -/
def ringL (f : Int) (n : Nat) : List (Int × Int) := ((List.range n).map fun (k : Nat) => (f + (k : Int), f + (k : Int) + 1)) ++ [(f, f + n)]
theorem ring_eq (f : Int) (n : Nat) (S : Sto) (f0 : 0 ≤ f ∧ f ≤ 100) (m0 : n ≤ 100) : m_l_ring_ties [.d (.int f), .d (.int ((n : Int) + 1))] S = .ok (.f (.lst (dP (ringL f n)))) S := by
  have hz := hz
  refine fn_eq rfl (S1 := S) ?_ (fun r h => by rw [← h]; simp)
  have en : (n : Int) + 1 - 1 = n := by omega
  simp [y_l_ring_ties, en]
  rw [comp_map (List.range n) (fun (i : Nat) => PyData.int (0 + i)) (fun (k : Nat) => pP (f + (k : Int), f + (k : Int) + 1)) (s := ⟨iota 0 n, []⟩) (by simp [en]; rw [e_range1 (by omega) (by omega)]; simp) rfl gok_nil (by simp; omega)
    (fun t ht => ⟨_, by simp [wipeE]; rfl, by simp, _, by simp; rfl, rfl⟩)]
  simp
  rw [o_addL rfl rfl (by simp; omega)]
  have e2 : f + ((n : Int) + 1) - 1 = f + n := by omega
  simp [ringL, e2, pP]
theorem ints_dI : ∀ ns : List Int, intsOf (dI ns) = some ns
  | [] => rfl
  | n :: ns => by
    have ih := ints_dI ns
    unfold dI at ih ⊢
    rw [List.map_cons]
    unfold intsOf
    rw [ih]
    rfl
theorem g_maxL {ns : List Int} {t : Int} (S : Sto) (h : topL ns = some t) : gMax [.d (.list (dI ns))] S = .ok (.d (.int t)) S := by
  unfold gMax
  simp [asR, seqOf, ints_dI, h]
def madeL : List (List (Int × Int)) := [[(0, 1), (1, 2), (2, 3)], ringL 0 5, ringL 0 2 ++ ringL 3 2, ringL 0 6]
theorem made_ok : ∀ ts ∈ madeL, ts.Nodup ∧ ts ≠ [] ∧ ts.length ≤ 21 ∧ ∀ t ∈ ts, 0 ≤ t.1 ∧ t.1 < t.2 ∧ t.2 ≤ 6 := by decide
theorem rgD_nat (n : Nat) : rgD 0 (n : Int) = dI ((List.range n).map fun (k : Nat) => (k : Int)) := by
  unfold rgD
  show _ = List.map PyData.int (List.map _ _)
  rw [List.map_map]
  simp [Function.comp_def]
theorem rise_nat (n : Nat) : Rise ((List.range n).map fun (k : Nat) => (k : Int)) := by
  rw [Rise, List.pairwise_map]
  exact List.Pairwise.imp (fun {a b} h => by omega) List.pairwise_lt_range
theorem web_of_wp {S : Sto} {i n : Nat} {l : List PyData} {most : Int} (hn : S[i]? = some (.lst l)) (hl : HC n l) (hb : n ≤ 700000) (m0 : most = 6 ∨ most = 7) :
    wp (m_l_web_of [.c i, .d (.int most)] S) fun v S' => ∃ W l', v = .d (pW W) ∧ IsWeb W ∧ W.1.length ≤ 7 ∧ W.2.length ≤ 21 ∧ HC (n + 2100) l' ∧ S' = S.set i (.lst l') := by
  have hz := hz
  refine wp_fn rfl ?_
  refine wp_seqN fun K kn => ?_
  simp [wp_bind]
  refine take_wp hn hl (by omega) (by decide) (by decide) fun l1 r hl1 r0 r1 => ?_
  simp [wp_bind]
  refine pick_wp (st_upd hn) hl1 (by omega) (by simp) (by simp) fun l2 x hl2 hx => ?_
  obtain ⟨g, hg, rfl⟩ : ∃ g : Int, (0 ≤ g ∧ g ≤ 7) ∧ x = .int g := by
    simp at hx
    rcases hx with rfl | rfl | rfl | rfl | rfl | rfl | rfl | rfl
    · exact ⟨most, by omega, rfl⟩
    all_goals exact ⟨_, by decide, rfl⟩
  simp
  refine kn _ _ ?_
  clear kn K
  have hn2 : (S.set i (.lst l2))[i]? = some (.lst l2) := st_upd hn
  refine wp_seq fun K kn kr => ?_
  by_cases hr : r < 2
  · simp [hr, wp_bind]
    refine (web_wp hn2 hl2 (by omega) hg.1 (by omega) (by decide) (by decide)).mono ?_
    rintro v T ⟨W, l3, rfl, hW, hW1, hW2, hl3, rfl⟩
    simp
    exact kr _ _ (wp_out_d ⟨W, l3, rfl, hW, by omega, by omega, hl3.up (by omega), by simp⟩)
  · simp [hr]
    refine kn _ _ ?_
    clear kn kr K
    generalize hU : S.set i (.lst l2) = U at hn2
    have q1 : ∀ S, m_l_ring_ties [.d (.int 0), .d (.int 3)] S = .ok (.f (.lst (dP (ringL 0 2)))) S := fun S => ring_eq 0 2 S (by decide) (by decide)
    have q2 : ∀ S, m_l_ring_ties [.d (.int 3), .d (.int 3)] S = .ok (.f (.lst (dP (ringL 3 2)))) S := fun S => ring_eq 3 2 S (by decide) (by decide)
    have q3 : ∀ S, m_l_ring_ties [.d (.int 0), .d (.int 6)] S = .ok (.f (.lst (dP (ringL 0 5)))) S := fun S => ring_eq 0 5 S (by decide) (by decide)
    have q4 : ∀ S, m_l_ring_ties [.d (.int 0), .d (.int 7)] S = .ok (.f (.lst (dP (ringL 0 6)))) S := fun S => ring_eq 0 6 S (by decide) (by decide)
    have q5 : ∀ S, gAdd (.d (.list (dP (ringL 0 2)))) (.d (.list (dP (ringL 3 2)))) S = .ok (.f (.lst (dP (ringL 0 2 ++ ringL 3 2)))) S := fun S => by
      rw [o_addL rfl rfl (by simp [ringL]; omega)]
      simp
    refine wp_seqN fun K kn => ?_
    simp only [e_sSet, e_2, e_Call, e_aCons, e_aNil, e_K, bind_ok, th_d, th_f, data_lst, q1, q2, q5, wp_ok, List.set_cons_zero, List.set_cons_succ]
    refine kn _ _ ?_
    clear kn K
    refine wp_seqN fun K kn => ?_
    simp [q3, q4]
    refine kn _ _ ?_
    clear kn K
    refine wp_seqN fun K kn => ?_
    obtain ⟨ts, hts, e⟩ : ∃ ts ∈ madeL, gIx (.d (.list [.list [.tuple [.int 0, .int 1], .tuple [.int 1, .int 2], .tuple [.int 2, .int 3]], .list (dP (ringL 0 5)), .list (List.map pP (ringL 0 2) ++ List.map pP (ringL 3 2)), .list (dP (ringL 0 6))])) (.d (.int (r - 2))) U = .ok (.d (.list (dP ts))) U := by
      have hr4 : r = 2 ∨ r = 3 ∨ r = 4 ∨ r = 5 := by omega
      rcases hr4 with rfl | rfl | rfl | rfl
      · exact ⟨[(0, 1), (1, 2), (2, 3)], by simp [madeL], rfl⟩
      · exact ⟨ringL 0 5, by simp [madeL], rfl⟩
      · exact ⟨ringL 0 2 ++ ringL 3 2, by simp [madeL], by rw [show dP (ringL 0 2 ++ ringL 3 2) = List.map pP (ringL 0 2) ++ List.map pP (ringL 3 2) from List.map_append]; rfl⟩
      · exact ⟨ringL 0 6, by simp [madeL], rfl⟩
    have rr : (-18446744073709551616 < r) ∧ r < 18446744073709551616 := by omega
    clear q1 q2 q3 q4 q5
    obtain ⟨nd, ne, hl21, hts6⟩ := made_ok ts hts
    simp only [e_sSet, e_2, e_V, e_K, e, bind_ok, th_d, wp_ok, List.set_cons_zero, List.set_cons_succ, List.getElem?_cons_zero, List.getElem?_cons_succ, o_sub]
    refine kn _ _ ?_
    clear kn K
    obtain ⟨mx, hmx⟩ : ∃ mx, topL (ts.map (·.2)) = some mx := by
      cases ts with
      | nil => exact absurd rfl ne
      | cons t r => exact ⟨_, rfl⟩
    obtain ⟨t1, t2⟩ := topL_ok hmx
    obtain ⟨tm, htm, etm⟩ := List.mem_map.mp t1
    have hm := hts6 tm htm
    obtain ⟨mN, rfl⟩ : ∃ mN : Nat, mx = mN := ⟨mx.toNat, by omega⟩
    have ok : rgOk 0 (1 + (mN : Int)) = true := by
      unfold rgOk
      exact decide_eq_true ⟨by omega, by omega, by omega, by omega⟩
    refine wp_seqN fun K kn => ?_
    simp
    rw [comp_map ts pP (fun t => .int t.2) (s := ⟨dP ts, []⟩) (by simp) rfl gok_nil (by omega) (fun t ht => ⟨_, by simp [wipeE]; rfl, by simp, _, by simp; rfl, rfl⟩)]
    have eM : ∀ S, gMax [.d (.list (List.map (fun t => PyData.int t.2) ts))] S = .ok (.d (.int (mN : Int))) S := fun S => by
      have z := g_maxL S hmx
      rw [show dI (ts.map (·.2)) = ts.map (fun t => PyData.int t.2) from by show List.map PyData.int (List.map _ ts) = _; rw [List.map_map]; rfl] at z
      exact z
    simp [eM, ok]
    refine kn _ _ ?_
    clear kn K
    simp
    rw [sorted_pair (t := false) (g := []) (ps := ts) (by simp) (by omega)]
    have e1 : (1 + (mN : Int)) = ((mN + 1 : Nat) : Int) := by omega
    simp
    refine ⟨(List.range (mN + 1)).map fun (k : Nat) => (k : Int), psort ts, ?_, ⟨rise_nat _, psort_rise nd, ?_, ?_⟩, by simp; omega, by simp; omega, l2, hl2.up (by omega), by rw [← hU]; simp⟩
    · rw [e1, rgD_nat]
      rfl
    · intro a ha
      obtain ⟨k, hk, rfl⟩ := List.mem_map.mp ha
      rw [List.mem_range] at hk
      omega
    · intro t ht
      have h1 := hts6 t (mem_psort.mp ht)
      have h2 := t2 t.2 (List.mem_map_of_mem (mem_psort.mp ht))
      refine ⟨h1.2.1, List.mem_map.mpr ⟨t.1.toNat, List.mem_range.mpr (by omega), by omega⟩, List.mem_map.mpr ⟨t.2.toNat, List.mem_range.mpr (by omega), by omega⟩⟩
theorem sub_len {α : Type} [DecidableEq α] : ∀ {xs ys : List α}, xs.Nodup → (∀ x ∈ xs, x ∈ ys) → xs.length ≤ ys.length
  | [], _, _, _ => Nat.zero_le _
  | x :: xs, ys, nd, hs => by
    have hx := hs x (by simp)
    have nx := (List.nodup_cons.mp nd).1
    have := sub_len (xs := xs) (ys := ys.erase x) (List.nodup_cons.mp nd).2 fun z hz => (List.mem_erase_of_ne fun q => nx (by rw [← q]; exact hz)).mpr (hs z (List.mem_cons_of_mem _ hz))
    rw [List.length_erase_of_mem hx] at this
    have := List.length_pos_of_mem hx
    simp
    omega
theorem plain_dP : ∀ ts : List (Int × Int), PyData.plainAll (dP ts) = true
  | [] => rfl
  | t :: ts => by
    have ih := plain_dP ts
    unfold dP at ih ⊢
    rw [List.map_cons]
    unfold PyData.plainAll
    rw [ih]
    rfl
theorem rem_c {S : Sto} {n : Nat} {ts : List (Int × Int)} {p : Int × Int} (h : S[n]? = some (.lst (dP ts))) (hp : p ∈ ts) : ∃ j, gRemoveD (.c n) [.d (pP p)] S = .ok (.d .none) (S.set n (.lst (dP (ts.eraseIdx j)))) := by
  have e : ∃ j, SeqAt.dataPlace (dP ts) (pP p) = some j := by
    unfold SeqAt.dataPlace
    cases q : (dP ts).findIdx? fun y => PyData.eqv y (pP p) with
    | some j => exact ⟨j, rfl⟩
    | none =>
      rw [List.findIdx?_eq_none_iff] at q
      have := q (pP p) (List.mem_map_of_mem hp)
      rw [(encP.eqv p p).mpr rfl] at this
      cases this
  obtain ⟨j, hj⟩ := e
  refine ⟨j, ?_⟩
  have c : SeqAt.shaped (.list (dP ts)) = true ∧ SeqAt.shaped (pP p) = true ∧ PyData.plainAll (dP ts) = true ∧ (pP p).plain = true := ⟨encP.lst.shaped (by decide) ts, encP.shaped (by decide) p, plain_dP ts, rfl⟩
  unfold gRemoveD cellL
  dsimp only
  rw [h]
  dsimp only
  rw [if_pos c, hj]
  dsimp only
  rw [map_erase]
theorem pickC_wp {S : Sto} {i m n : Nat} {l : List PyData} {xs : List PyData} {Q : Val → Sto → Prop} (hn : S[i]? = some (.lst l)) (hm : S[m]? = some (.lst xs)) (him : i ≠ m) (hl : HC n l) (hb : n ≤ 1000000) (h0 : xs ≠ []) (hx : xs.length ≤ 1000)
    (q : ∀ l' x, HC (n + 1) l' → x ∈ xs → Q (.d x) (S.set i (.lst l'))) : wp (m_l_pick [.c i, .c m] S) Q := by
  refine wp_fn rfl ?_
  have hp : 0 < xs.length := List.length_pos_iff.mpr h0
  simp [y_l_pick, wp_bind, g_lenC hm]
  refine take_wp hn hl hb (by omega) (by omega) fun l' r hl' r0 r1 => ?_
  have hr : r.toNat < xs.length := by omega
  have e : atI xs r = some xs[r.toNat] := at_nat r0 (List.getElem?_eq_getElem hr)
  have hm2 : (S.set i (.lst l'))[m]? = some (.lst xs) := by rw [List.getElem?_set_ne him]; exact hm
  simp [o_ixC hm2, e]
  exact q _ _ hl' (List.getElem_mem hr)
theorem changed_wp {S : Sto} {i n : Nat} {l : List PyData} {W : Web} (hn : S[i]? = some (.lst l)) (hl : HC n l) (hb : n ≤ 700000) (hW : IsWeb W) (w1 : W.1.length ≤ 7) (w2 : W.2.length ≤ 21) :
    wp (m_l_changed [.c i, .d (pW W)] S) fun v S' => ∃ W' l', v = .d (pW W') ∧ IsWeb W' ∧ W'.1.length ≤ 7 ∧ W'.2.length ≤ 22 ∧ HC (n + 10) l' ∧ S' = S.set i (.lst l') := by
  have hz := hz
  have hlt := st_lt hn
  refine wp_fn rfl ?_
  refine wp_seqN fun K kn => ?_
  simp [wp_bind]
  refine take_wp hn hl (by omega) (by decide) (by decide) fun l1 r hl1 r0 r1 => ?_
  have gl : ∀ S : Sto, gList [.d (pTs W.2)] S = .ok (.f (.lst (dP W.2))) S := fun _ => rfl
  simp [wp_bind, setAll, gl]
  refine kn _ _ ?_
  clear kn K
  refine wp_seqN fun K kn => ?_
  simp
  refine kn _ _ ?_
  clear kn K
  refine wp_seqN fun K kn => ?_
  refine wp_forK (fun (pre : List Int) ρ T => ∃ ps o3 o7, ρ = [some (.c i), some (.d (pW W)), some (.c (S.length + 1)), o3, some (.d (.int r)), some (.d (pT W.1)), some (.c S.length), o7, none] ∧ T = S.set i (.lst l1) ++ [.lst (dP W.2), .lst (dP ps)] ∧ ps.length ≤ 7 * pre.length ∧ ∀ p ∈ ps, p.1 < p.2 ∧ p.1 ∈ W.1 ∧ p.2 ∈ W.1 ∧ p ∉ W.2) W.1 PyData.int (s := ⟨dI W.1, []⟩) (S1 := S.set i (.lst l1) ++ [.lst (dP W.2), .lst []]) ?_ rfl (fun _ _ _ _ => gok_nil) ⟨[], none, none, rfl, rfl, by simp, by simp⟩ ?_ ?_
  · simp
  · rintro pre b post ρ T e ⟨ps, o3, o7, rfl, rfl, hpl, hps⟩
    have hlen : pre.length < 7 := by
      have := congrArg List.length e
      simp at this
      omega
    refine ⟨_, rfl, fun K kn kr => ?_⟩
    have hc : (S.set i (.lst l1) ++ [.lst (dP W.2), .lst (dP ps)])[S.length]? = some (.lst (dP W.2)) := st_loc
    have hc1 : (S.set i (.lst l1) ++ [.lst (dP W.2), .lst (dP ps)])[S.length + 1]? = some (.lst (dP ps)) := st_loc1
    have ltI : ∀ (a b : Int) (T : Sto), gLt (.d (.int a)) (.d (.int b)) T = .ok (.d (.bool (decide (a < b)))) T := fun a b T => by simp
    have ni : ∀ a : Int, gNotIn (.d (.tuple [.int a, .int b])) (.c S.length) (S.set i (.lst l1) ++ [.lst (dP W.2), .lst (dP ps)]) = .ok (.d (.bool (!decide ((a, b) ∈ W.2)))) (S.set i (.lst l1) ++ [.lst (dP W.2), .lst (dP ps)]) := fun a => encP.notInC (a, b) W.2 hc
    rw [e_sEx, mt_eval (v := .c (S.length + 1)) rfl (ty_list hc1)]
    simp
    rw [comp_pure W.1 PyData.int (fun a => decide (a < b) && !decide ((a, b) ∈ W.2)) (fun a => pP (a, b)) (s := ⟨dI W.1, []⟩) (by simp) rfl gok_nil (by omega) (fun a ha => ⟨_, by simp [wipeE]; rfl, by
      by_cases q1 : a < b <;> simp [q1, ni], fun _ => ⟨_, by simp; rfl, rfl⟩⟩)]
    simp
    have e2 : List.map (fun a => pP (a, b)) (List.filter (fun a => decide (a < b) && !decide ((a, b) ∈ W.2)) W.1) = dP ((List.filter (fun a => decide (a < b) && !decide ((a, b) ∈ W.2)) W.1).map fun a => (a, b)) := by simp
    have hfl := List.length_filter_le (fun a => decide (a < b) && !decide ((a, b) ∈ W.2)) W.1
    rw [e2, ext_c hc1 (w := .d (.list _)) rfl (by simp; omega)]
    simp [st_set_loc1]
    refine kn _ _ ⟨ps ++ (List.filter (fun a => decide (a < b) && !decide ((a, b) ∈ W.2)) W.1).map fun a => (a, b), _, _, rfl, by simp, by simp; omega, ?_⟩
    intro p hp
    rcases List.mem_append.mp hp with hp | hp
    · exact hps p hp
    · obtain ⟨a, ha, rfl⟩ := List.mem_map.mp hp
      rw [List.mem_filter] at ha
      have hb' : b ∈ W.1 := by rw [e]; simp
      simp at ha
      exact ⟨ha.2.1, ha.1, hb', ha.2.2⟩
  · rintro ρ T ⟨ps, o3, o7, rfl, rfl, hpl, hps⟩
    refine kn _ _ ?_
    clear kn K
    have inI : ∀ (a b c : Int) (T : Sto), gIn (.d (.int a)) (.d (.tuple [.int b, .int c])) T = .ok (.d (.bool (decide (a ∈ [b, c])))) T := fun a b c T => encInt.inT a [b, c]
    have neC : ∀ (ts : List (Int × Int)) (m : Nat) (T : Sto), T[m]? = some (.lst (dP ts)) → gNe (.c m) (.d (.list [])) T = .ok (.d (.bool (!decide (ts = [])))) T := fun ts m T h => by
      have z := encP.lst.ne (S := T) ts []
      unfold gNe at z ⊢
      simp [asD, h] at z ⊢
      exact z
    /- the three deeds: what they leave -/
    have fin : ∀ (P : List Int) (ts : List (Int × Int)) (l' : List PyData) (o2 o3 o4 o7 o8 : Option Val) (m : Sto), IsWeb (P, psort ts) → P.length ≤ 7 → ts.length ≤ 22 → HC (n + 10) l' → m[S.length]? = some (.lst (dP ts)) → m.take S.length = S.set i (.lst l') →
        wp (sRt (evTup (aCons (evV 5) (aCons (evCall (g1 fTuple) (aCons (evCall gSorted (aCons (evV 6) (aNil))) (aNil))) (aNil)))) [some (.c i), some (.d (pW W)), o2, o3, o4, some (.d (pT P)), some (.c S.length), o7, o8] m) (fun w S1 => match w with
          | Fw.nx ρ => False
          | Fw.rt v => wp (out S.length S1 v) fun v S' => ∃ W' l', v = .d (pW W') ∧ IsWeb W' ∧ W'.1.length ≤ 7 ∧ W'.2.length ≤ 22 ∧ HC (n + 10) l' ∧ S' = S.set i (.lst l')
          | _ => False) := by
      intro P ts l' o2 o3 o4 o7 o8 m hW' hP hts hl' hm htk
      simp
      rw [sorted_pair (t := false) (g := [(S.length, dP ts)]) (ps := ts) (by rw [seq_c, hm]) (by omega)]
      simp
      refine ⟨P, psort ts, rfl, hW', hP, by simpa using hts, l', hl', htk⟩
    refine wp_seqN fun K kn => ?_
    have hK : ∀ (l' : List PyData) (ts1 : List (Int × Int)), HC (n + 2) l' → ts1.Sublist W.2 → K (.nx [some (.c i), some (.d (pW W)), some (.c (S.length + 1)), o3, some (.d (.int r)), some (.d (pT W.1)), some (.c S.length), o7, none]) (S.set i (.lst l') ++ [.lst (dP ts1), .lst (dP ps)]) := by
      intro l' ts1 hl' hsub
      refine kn _ _ ?_
      clear kn K
      have t1l : ts1.length ≤ 21 := Nat.le_trans hsub.length_le w2
      have t1n : ts1.Nodup := hsub.nodup hW.rt.nodup
      have hc : (S.set i (.lst l') ++ [.lst (dP ts1), .lst (dP ps)])[S.length]? = some (.lst (dP ts1)) := st_loc
      have hc1 : (S.set i (.lst l') ++ [.lst (dP ts1), .lst (dP ps)])[S.length + 1]? = some (.lst (dP ps)) := st_loc1
      refine wp_seqN fun K kn => ?_
      have hK2 : ∀ (l' : List PyData) (ts2 : List (Int × Int)), HC (n + 3) l' → ts2.Nodup → ts2.length ≤ 22 → (∀ t ∈ ts2, t.1 < t.2 ∧ t.1 ∈ W.1 ∧ t.2 ∈ W.1) → K (.nx [some (.c i), some (.d (pW W)), some (.c (S.length + 1)), o3, some (.d (.int r)), some (.d (pT W.1)), some (.c S.length), o7, none]) (S.set i (.lst l') ++ [.lst (dP ts2), .lst (dP ps)]) := by
        intro l' ts2 hl' n2 l2 m2
        refine kn _ _ ?_
        clear kn K
        have hc : (S.set i (.lst l') ++ [.lst (dP ts2), .lst (dP ps)])[S.length]? = some (.lst (dP ts2)) := st_loc
        refine wp_seqN fun K kn => ?_
        have hK3 : ∀ (l' : List PyData) (P : List Int) (o8 : Option Val), HC (n + 4) l' → Rise P → P.length ≤ 7 → (∀ a ∈ W.1, a ∈ P) → (∀ a ∈ P, 0 ≤ a ∧ a ≤ 99) → K (.nx [some (.c i), some (.d (pW W)), some (.c (S.length + 1)), o3, some (.d (.int r)), some (.d (pT P)), some (.c S.length), o7, o8]) (S.set i (.lst l') ++ [.lst (dP ts2), .lst (dP ps)]) := by
          intro l' P o8 hl' hP hPl hPs hP9
          refine kn _ _ ?_
          clear kn K
          have wb : IsWeb (P, psort ts2) := ⟨hP, psort_rise n2, hP9, fun t ht => by
            have := m2 t (mem_psort.mp ht)
            exact ⟨this.1, hPs _ this.2.1, hPs _ this.2.2⟩⟩
          exact (fin P ts2 l' _ _ _ _ _ _ wb hPl l2 (hl'.up (by omega)) st_loc (by simp)).mono fun w S1 h => by
            cases w with
            | nx ρ => exact h.elim
            | rt v => exact h
            | bk ρ => exact h.elim
            | ct ρ => exact h.elim
        have base : K (.nx [some (.c i), some (.d (pW W)), some (.c (S.length + 1)), o3, some (.d (.int r)), some (.d (pT W.1)), some (.c S.length), o7, none]) (S.set i (.lst l') ++ [.lst (dP ts2), .lst (dP ps)]) := hK3 l' W.1 none (hl'.up (by omega)) hW.rp w1 (fun _ h => h) hW.lo
        have eqI : ∀ (a b : Int) (T : Sto), gEq (.d (.int a)) (.d (.int b)) T = .ok (.d (.bool (decide (a = b)))) T := fun a b T => encInt.eq a b
        by_cases q1 : r = 3
        · by_cases q2 : W.1.length < 7
          · have q2' : (W.1.length : Int) < 7 := by omega
            have niT : ∀ (a : Int) (T : Sto), gNotIn (.d (.int a)) (.d (pT W.1)) T = .ok (.d (.bool (!decide (a ∈ W.1)))) T := fun a T => encInt.notInT a W.1
            simp [eqI, q1, q2', wp_bind]
            rw [comp_pure (List.range 100) (fun (k : Nat) => PyData.int (0 + k)) (fun k => !decide ((k : Int) ∈ W.1)) (fun k => .int (k : Int)) (s := ⟨iota 0 100, []⟩) (by simp) rfl gok_nil (by simp; omega) (fun k hk => ⟨_, by simp [wipeE]; rfl, by simp [niT], fun _ => ⟨_, by simp; rfl, rfl⟩⟩)]
            have ne : (List.range 100).filter (fun (k : Nat) => !decide ((k : Int) ∈ W.1)) ≠ [] := by
              intro e
              rw [List.filter_eq_nil_iff] at e
              have z := sub_len (xs := (List.range 100).map fun (k : Nat) => (k : Int)) (ys := W.1) (by decide) fun x hx => by
                obtain ⟨k, hk, rfl⟩ := List.mem_map.mp hx
                simpa using e k hk
              simp at z
              omega
            have fl := List.length_filter_le (fun (k : Nat) => !decide ((k : Int) ∈ W.1)) (List.range 100)
            simp at fl
            simp [wp_bind]
            refine pick_wp (st_own hlt) hl' (by omega) (by simpa using ne) (by simp; omega) fun l3 x hl3 hx => ?_
            obtain ⟨k, hk, rfl⟩ := List.mem_map.mp hx
            rw [List.mem_filter, List.mem_range] at hk
            have kno : ¬ (k : Int) ∈ W.1 := by simpa using hk.2
            rw [st_set_own hlt]
            have ad : gAdd (.d (pT W.1)) (.d (.tuple [.int (k : Int)])) (S.set i (.lst l3) ++ [.lst (dP ts2), .lst (dP ps)]) = .ok (.d (pT (W.1 ++ [(k : Int)]))) (S.set i (.lst l3) ++ [.lst (dP ts2), .lst (dP ps)]) := by
              show gAdd (.d (.tuple (dI W.1))) _ _ = _
              rw [o_addT (by simp; omega)]
              simp [pT]
            simp [ad]
            rw [sorted_int (t := true) (g := []) (ns := W.1 ++ [(k : Int)]) (by simp) (by simp; omega)]
            simp
            have nd : (W.1 ++ [(k : Int)]).Nodup := by
              rw [List.nodup_append]
              refine ⟨hW.rp.nodup, by simp, fun a ha b hb e => ?_⟩
              rw [List.mem_singleton.mp hb] at e
              exact kno (e ▸ ha)
            subst q1
            refine hK3 l3 (isort (W.1 ++ [(k : Int)])) _ hl3 (isort_rise nd) (by simp; omega) (fun a ha => by simp [ha]) fun a ha => ?_
            rw [mem_isort] at ha
            rcases List.mem_append.mp ha with ha | ha
            · exact hW.lo a ha
            · rw [List.mem_singleton.mp ha]; omega
          · have q2' : ¬ (W.1.length : Int) < 7 := by omega
            simp [eqI, q1, q2']
            subst q1
            exact base
        · simp [eqI, q1]
          exact base
      have base : K (.nx [some (.c i), some (.d (pW W)), some (.c (S.length + 1)), o3, some (.d (.int r)), some (.d (pT W.1)), some (.c S.length), o7, none]) (S.set i (.lst l') ++ [.lst (dP ts1), .lst (dP ps)]) := hK2 l' ts1 (hl'.up (by omega)) t1n (by omega) (fun t ht => (hW.lt t (hsub.subset ht)))
      by_cases q1 : r ∈ [0, 2]
      · by_cases q2 : ps = []
        · have z := neC ps _ _ hc1
          rw [show (!decide (ps = [])) = false from by simp [q2]] at z
          simp [inI, q1, z]
          exact base
        · simp [inI, q1, neC _ _ _ hc1, q2, ty_list hc, wp_bind]
          refine pickC_wp (st_own hlt) hc1 (by omega) hl' (by omega) (by simpa using q2) (by simp; omega) fun l2 x hl2 hx => ?_
          obtain ⟨p, hp, rfl⟩ := List.mem_map.mp hx
          rw [st_set_own hlt]
          have hc : (S.set i (.lst l2) ++ [.lst (dP ts1), .lst (dP ps)])[S.length]? = some (.lst (dP ts1)) := st_loc
          have hp' := hps p hp
          simp [app_c hc (y := pP p) (by simp; omega), st_set_loc]
          have e2 : dP ts1 ++ [pP p] = dP (ts1 ++ [p]) := by simp
          rw [e2]
          refine hK2 l2 (ts1 ++ [p]) hl2 ?_ (by simp; omega) ?_
          · rw [List.nodup_append]
            refine ⟨t1n, by simp, fun a ha b hb e => ?_⟩
            rw [List.mem_singleton.mp hb] at e
            subst e
            exact hp'.2.2.2 (hsub.subset ha)
          · intro t ht
            rcases List.mem_append.mp ht with ht | ht
            · exact hW.lt t (hsub.subset ht)
            · rw [List.mem_singleton.mp ht]; exact ⟨hp'.1, hp'.2.1, hp'.2.2.1⟩
      · simp [inI, q1]
        exact base
    have hc : (S.set i (.lst l1) ++ [.lst (dP W.2), .lst (dP ps)])[S.length]? = some (.lst (dP W.2)) := st_loc
    have base := hK l1 W.2 (hl1.up (by omega)) (List.Sublist.refl _)
    by_cases q1 : r ∈ [0, 1]
    · by_cases q2 : W.2 = []
      · have z := neC W.2 _ _ hc
        rw [show (!decide (W.2 = [])) = false from by simp [q2]] at z
        simp [inI, q1, z]
        exact base
      · simp [inI, q1, neC _ _ _ hc, q2, ty_list hc, wp_bind]
        refine pickC_wp (st_own hlt) hc (by omega) hl1 (by omega) (by simpa using q2) (by simp; omega) fun l2 x hl2 hx => ?_
        obtain ⟨p, hp, rfl⟩ := List.mem_map.mp hx
        rw [st_set_own hlt]
        have hc : (S.set i (.lst l2) ++ [.lst (dP W.2), .lst (dP ps)])[S.length]? = some (.lst (dP W.2)) := st_loc
        obtain ⟨j, ej⟩ := rem_c hc hp
        simp [ej, st_set_loc]
        exact hK l2 _ hl2 (List.eraseIdx_sublist _ _)
    · simp [inI, q1]
      exact base
theorem tie_web {V : Web} {ys : List Int} (hV : IsWeb V) (nd : ys.Nodup) (hl : ys.length = V.1.length) (hb : ∀ a ∈ ys, 0 ≤ a ∧ a ≤ 99) : IsWeb (isort ys, psort (V.2.map (tieF V.1 ys))) := by
  have np := hV.rp.nodup
  have eN : V.1.length = ys.length := hl.symm
  have inj1 : ∀ {x y : Int}, x ∈ V.1 → y ∈ V.1 → callF V.1 ys x = callF V.1 ys y → x = y := fun {x y} hx hy e => by
    rw [← call_back np nd eN hx, e, call_back np nd eN hy]
  have inj : (V.2.map (tieF V.1 ys)).Nodup := by
    rw [List.nodup_iff_pairwise_ne, List.pairwise_map]
    refine hV.rt.imp_of_mem fun {a b} ha hb lt e => ?_
    obtain ⟨a1, a2, a3⟩ := hV.lt a ha
    obtain ⟨b1, b2, b3⟩ := hV.lt b hb
    unfold tieF at e
    have ne : callF V.1 ys a.1 ≠ callF V.1 ys a.2 := fun z => by have := inj1 a2 a3 z; omega
    have ne' : callF V.1 ys b.1 ≠ callF V.1 ys b.2 := fun z => by have := inj1 b2 b3 z; omega
    simp only [Prod.mk.injEq] at e
    obtain ⟨e1, e2⟩ := e
    have key : (callF V.1 ys a.1 = callF V.1 ys b.1 ∧ callF V.1 ys a.2 = callF V.1 ys b.2) ∨ (callF V.1 ys a.1 = callF V.1 ys b.2 ∧ callF V.1 ys a.2 = callF V.1 ys b.1) := by
      split at e1 <;> split at e1 <;> split at e2 <;> split at e2 <;> omega
    unfold pLt at lt
    rcases key with ⟨k1, k2⟩ | ⟨k1, k2⟩
    · have := inj1 a2 b2 k1
      have := inj1 a3 b3 k2
      omega
    · have := inj1 a2 b3 k1
      have := inj1 a3 b2 k2
      omega
  refine ⟨isort_rise nd, psort_rise inj, fun a ha => hb a (mem_isort.mp ha), fun t ht => ?_⟩
  obtain ⟨u, hu, rfl⟩ := List.mem_map.mp (mem_psort.mp ht)
  obtain ⟨a1, a2, a3⟩ := hV.lt u hu
  have m := tie_mem eN a2 a3
  refine ⟨?_, mem_isort.mpr m.1, mem_isort.mpr m.2⟩
  have ne : callF V.1 ys u.1 ≠ callF V.1 ys u.2 := fun z => by have := inj1 a2 a3 z; omega
  unfold tieF
  dsimp only
  split <;> split <;> omega
def pQ (q : Web × Web) : PyData := .tuple [pW q.1, pW q.2]
@[simp] theorem go_Q {q : Web × Web} {ρ : Envi} {bs : List Bnd} : (bTup bs).go (pQ q) ρ = goL bs [pW q.1, pW q.2] ρ := (rfl)
theorem repr_T {S : Sto} {ns : List Int} (h : ∀ a ∈ ns, 0 ≤ a ∧ a ≤ 99) (hl : ns.length ≤ 1000) : gRepr [.d (pT ns)] S = .ok (.d (.str (pT ns).shown)) S := by
  have t1 : Txt (pT ns) _ := txt_tup (enc := PyData.int) (n := 0) fun p hp => txt_int (by have := h p hp; omega)
  have f := t1.fits (by omega)
  exact repr_of rfl ⟨encT.lay ns, f.1, f.2, Nat.le_trans (encT.dep ns) (by decide)⟩
theorem repr_none {S : Sto} : gRepr [.d .none] S = .ok (.d (.str PyData.none.shown)) S := repr_of rfl (by decide +kernel)
theorem perm_ints {P : List Int} {ds : List PyData} (h : ds.Perm (dI P)) : ∃ N, ds = dI N ∧ N.Perm P := by
  refine ⟨ds.map fun d => match d with | .int a => a | _ => 0, ?_, ?_⟩
  · show ds = List.map PyData.int (List.map _ ds)
    rw [List.map_map]
    refine (List.map_id _).symm.trans (List.map_congr_left fun d hd => ?_)
    obtain ⟨t, _, rfl⟩ := List.mem_map.mp (h.mem_iff.mp hd)
    rfl
  · have q := h.map fun d => match d with | .int a => a | _ => 0
    rw [List.map_map] at q
    have e : ((fun d => match d with | .int a => a | _ => 0) ∘ PyData.int) = (id : Int → Int) := rfl
    rw [e, List.map_id] at q
    exact q
theorem law_true (ns : List Int) (hl : ns.length ≤ 63) : ∃ S, m_law [.z (dI ns)] [] = .ok (.d (.bool true)) S := by
  have hz := hz
  suffices h : wp (m_law [.z (dI ns)] []) fun v _ => v = .d (.bool true) by
    obtain ⟨v, S, e, rfl⟩ := h.ex
    exact ⟨S, e⟩
  refine wp_fn rfl ?_
  refine wp_seq fun K kn kr => ?_
  obtain ⟨m, hm, hr⟩ : ∃ m : Nat, m ≤ 6 ∧ (iBy gRange1 (aCons (evCall gMax (aCons (evK (.int 1)) (aCons (evCall gMin (aCons (evK (.int 6)) (aCons (evCall (g1 fLen) (aCons (evV 0) (aNil)))
      (aNil)))) (aNil)))) (aNil))) [some (.z (dI ns)), none, none, none, none, none, none, none, none, none, none] [] = .ok ⟨iota 0 m, []⟩ [] := by
    refine ⟨(if (if (ns.length : Int) < 6 then (ns.length : Int) else 6) > 1 then (if (ns.length : Int) < 6 then (ns.length : Int) else 6) else 1).toNat, by split <;> (try split) <;> omega, ?_⟩
    simp
    rw [e_range1 (by split <;> (try split) <;> omega) (by split <;> (try split) <;> omega)]
  refine wp_forK (fun (pre : List Nat) ρ T => ∃ o1 o2 o3 o4 o5 o6 o7 o8 o9 o10, ρ = [some (.z (dI ns)), o1, o2, o3, o4, o5, o6, o7, o8, o9, o10]) (List.range m) (fun i => .int (0 + i)) hr rfl (fun _ _ _ _ => gok_nil) ⟨none, none, none, none, none, none, none, none, none, none, rfl⟩ ?_ ?_
  · rintro pre k post ρ T hk ⟨o1, o2, o3, o4, o5, o6, o7, o8, o9, o10, rfl⟩
    obtain ⟨hk1, hk2⟩ := range_at hk
    refine ⟨_, rfl, fun K kn kr => ?_⟩
    refine wp_seqN fun K1 k1 => ?_
    simp [wp_bind]
    refine (hand_wp ns k (by omega) (by omega) T).mono ?_
    rintro v T' ⟨rfl, l, rfl, hl⟩
    simp
    refine k1 _ _ ?_
    clear k1 K1
    generalize hT : T' ++ [Cell.lst l] = T
    have hn : T[T'.length]? = some (.lst l) := by rw [← hT]; simp
    generalize T'.length = n at hn
    clear hT
    refine wp_seqN fun K1 k1 => ?_
    have eqI : ∀ (a b : Int) (T : Sto), gEq (.d (.int a)) (.d (.int b)) T = .ok (.d (.bool (decide (a = b)))) T := fun a b T => encInt.eq a b
    have rest : ∀ most : Int, (most = 6 ∨ most = 7) → wp (m_l_web_of [.c n, .d (.int most)] T) fun a S => K1 (.nx [some (.z (dI ns)), some (.d (.int (k : Int))), some (.c n), some a.th, o4, o5, o6, o7, o8, o9, o10]) S := by
      intro most hmost
      refine (web_of_wp hn hl (by decide) hmost).mono ?_
      rintro v T2 ⟨W, l2, rfl, hW, hW1, hW2, hl2, rfl⟩
      simp
      refine k1 _ _ ?_
      clear k1 K1
      have hn2 : (T.set n (.lst l2))[n]? = some (.lst l2) := st_upd hn
      generalize T.set n (.lst l2) = U at hn2
      refine wp_seqN fun K1 k1 => ?_
      have g1 : rgOk 0 (W.1.length : Int) = true := by
        unfold rgOk
        exact decide_eq_true ⟨by omega, by omega, by omega, by omega⟩
      have g2 : rgOk 40 (40 + (W.1.length : Int)) = true := by
        unfold rgOk
        exact decide_eq_true ⟨by omega, by omega, by omega, by omega⟩
      simp [g1, g2, wp_bind]
      refine pick_wp hn2 hl2 (by decide) (by simp) (by simp) fun l3 x hl3 hx => ?_
      obtain ⟨N0, hN0, hN0l, hN0b, rfl⟩ : ∃ N0 : List Int, N0.Nodup ∧ N0.length = W.1.length ∧ (∀ a ∈ N0, 0 ≤ a ∧ a ≤ 99) ∧ x = pT N0 := by
        simp at hx
        rcases hx with rfl | rfl | rfl
        · exact ⟨W.1, hW.rp.nodup, rfl, hW.lo, rfl⟩
        · refine ⟨(List.range W.1.length).map fun (j : Nat) => 40 + (j : Int), ?_, by simp, ?_, ?_⟩
          · rw [List.nodup_iff_pairwise_ne, List.pairwise_map]
            exact List.Pairwise.imp (fun {a b} h => by omega) List.pairwise_lt_range
          · intro a ha
            obtain ⟨j, hj, rfl⟩ := List.mem_map.mp ha
            rw [List.mem_range] at hj
            omega
          · unfold pT rgD
            have : (40 + (W.1.length : Int) - 40).toNat = W.1.length := by omega
            rw [this, List.map_map]
            rfl
        · refine ⟨(List.range W.1.length).map fun (j : Nat) => (j : Int), (rise_nat _).nodup, by simp, ?_, ?_⟩
          · intro a ha
            obtain ⟨j, hj, rfl⟩ := List.mem_map.mp ha
            rw [List.mem_range] at hj
            omega
          · rw [rgD_nat]; rfl
      simp
      refine k1 _ _ ?_
      clear k1 K1
      have hn3 : (U.set n (.lst l3))[n]? = some (.lst l3) := st_upd hn2
      generalize U.set n (.lst l3) = U2 at hn3
      refine wp_seqN fun K1 k1 => ?_
      simp [wp_bind]
      refine (shuf_wp hn3 hl3 (by decide) (v := .d (pT N0)) (t := true) (ds := dI N0) (g := []) rfl (by simp) (by simp; omega)).mono ?_
      rintro v T3 ⟨ds', l4, rfl, hp, hl4, rfl⟩
      obtain ⟨N, rfl, hp2⟩ := perm_ints hp
      have nN : N.Nodup := hp2.nodup_iff.mpr hN0
      have lN : N.length = W.1.length := by rw [hp2.length_eq, hN0l]
      have bN : ∀ a ∈ N, 0 ≤ a ∧ a ≤ 99 := fun a ha => hN0b a (hp2.mem_iff.mp ha)
      have bt : ∀ t ∈ W.2, t.1 ∈ W.1 ∧ t.2 ∈ W.1 := fun t ht => (hW.lt t ht).2
      simp [wp_bind]
      refine (called_wp W.1 N W.2 _ hW.rp.nodup lN.symm bt (by omega) (by omega)).mono ?_
      rintro v T4 ⟨rfl, rfl⟩
      simp
      refine k1 _ _ ?_
      clear k1 K1
      have hO : IsWeb (isort N, psort (W.2.map (tieF W.1 N))) := tie_web hW nN lN bN
      have hO1 : (isort N, psort (W.2.map (tieF W.1 N))).1.length ≤ 7 := by simp; omega
      have hO2 : (isort N, psort (W.2.map (tieF W.1 N))).2.length ≤ 21 := by simp; omega
      generalize (isort N, psort (W.2.map (tieF W.1 N))) = O at hO hO1 hO2
      have hn4 : (U2.set n (.lst l4))[n]? = some (.lst l4) := st_upd hn3
      generalize U2.set n (.lst l4) = U3 at hn4
      simp at hl4
      refine wp_seqN fun K1 k1 => ?_
      simp [wp_bind]
      refine (changed_wp hn4 hl4 (by omega) hO hO1 hO2).mono ?_
      rintro v T5 ⟨C, l5, rfl, hC, hC1, hC2, hl5, rfl⟩
      simp [wp_bind]
      refine (web_wp (st_upd hn4) hl5 (by omega) (by omega) (by omega) (by decide) (by decide)).mono ?_
      rintro v T6 ⟨D, l6, rfl, hD, hD1, hD2, hl6, rfl⟩
      simp
      refine k1 _ _ ?_
      clear k1 K1
      generalize U3.set n (.lst l6) = U4
      obtain ⟨Ls, hLs, hall⟩ : ∃ Ls : List Web, Ls = [O, C, D, W] ∧ ∀ V ∈ Ls, IsWeb V ∧ V.1.length ≤ 7 ∧ V.2.length ≤ 22 := by
        refine ⟨_, rfl, fun V hV => ?_⟩
        simp at hV
        rcases hV with rfl | rfl | rfl | rfl
        · exact ⟨hO, hO1, by omega⟩
        · exact ⟨hC, hC1, hC2⟩
        · exact ⟨hD, by omega, by omega⟩
        · exact ⟨hW, hW1, by omega⟩
      have eLs : [pW O, pW C, pW D, pW W] = Ls.map pW := by rw [hLs]; rfl
      have lLs : Ls.length = 4 := by rw [hLs]; rfl
      rw [eLs]
      clear eLs hLs
      obtain ⟨Ps, hPs⟩ : ∃ Ps : List (Web × Web), Ps = (Ls.map fun V => (W, V)) ++ Ls.map fun V => (V, W) := ⟨_, rfl⟩
      have memP : ∀ q ∈ Ps, (IsWeb q.1 ∧ q.1.1.length ≤ 7 ∧ q.1.2.length ≤ 22) ∧ IsWeb q.2 ∧ q.2.1.length ≤ 7 ∧ q.2.2.length ≤ 22 := by
        intro q hq
        rw [hPs] at hq
        have hw : IsWeb W ∧ W.1.length ≤ 7 ∧ W.2.length ≤ 22 := ⟨hW, hW1, by omega⟩
        rcases List.mem_append.mp hq with hq | hq
        · obtain ⟨V, hV, rfl⟩ := List.mem_map.mp hq
          exact ⟨hw, hall V hV⟩
        · obtain ⟨V, hV, rfl⟩ := List.mem_map.mp hq
          exact ⟨hall V hV, hw⟩
      refine wp_forK (fun (pre : List (Web × Web)) ρ T => ∃ o7 o8 o9 o10, ρ = [some (.z (dI ns)), some (.d (.int (k : Int))), some (.c n), some (.d (pW W)), some (.d (pT N0)), some (.d (pW O)), some (.d (.list (Ls.map pW))), o7, o8, o9, o10]) Ps pQ (s := ⟨Ps.map pQ, []⟩) (S1 := U4) ?_ rfl (fun _ _ _ _ => gok_nil) ⟨_, _, _, _, rfl⟩ ?_ ?_
      · simp
        rw [comp_map Ls pW (fun V => pQ (W, V)) (s := ⟨Ls.map pW, []⟩) (by simp) rfl gok_nil (by omega) (fun t ht => ⟨_, by simp [wipeE]; rfl, by simp, _, by simp; rfl, rfl⟩)]
        simp
        rw [comp_map Ls pW (fun V => pQ (V, W)) (s := ⟨Ls.map pW, []⟩) (by simp) rfl gok_nil (by omega) (fun t ht => ⟨_, by simp [wipeE]; rfl, by simp, _, by simp; rfl, rfl⟩)]
        simp
        rw [o_addL rfl rfl (by simp; omega)]
        simp [hPs, Function.comp_def]
      · rintro pre q post ρ T e ⟨o7, o8, o9, o10, rfl⟩
        obtain ⟨⟨v1, v2, v3⟩, w1, w2, w3⟩ := memP q (by rw [e]; simp)
        refine ⟨_, rfl, fun K1 k1 k2 => ?_⟩
        refine wp_seqN fun K2 k3 => ?_
        simp [wp_bind]
        refine (alike_wp q.1 q.2 T (by omega)).mono ?_
        rintro v T2 ⟨rfl, rfl⟩
        simp
        refine k3 _ _ ?_
        clear k3 K2
        have good : ∀ ys, alikeO q.1 q.2 = some ys → (ys.Nodup ∧ ys.length = q.1.1.length ∧ (∀ a ∈ ys, 0 ≤ a ∧ a ≤ 99)) ∧ isort ys = q.2.1 ∧ psort (q.1.2.map (tieF q.1.1 ys)) = q.2.2 := by
          intro ys hy
          unfold alikeO at hy
          split at hy
          case isFalse => cases hy
          rename_i c
          obtain ⟨g, gl⟩ := seek_good 40 (V := q.1) (W := q.2) ⟨by simp, by simp, by simp, by simp⟩ hy
          exact ⟨⟨g.nd, gl, fun a ha => w1.lo a (g.sub a ha)⟩, like_law v1 w1 c.1 c.2 g gl⟩
        have rep : ∀ S, gRepr [.d (optD (alikeO q.1 q.2))] S = .ok (.d (.str (optD (alikeO q.1 q.2)).shown)) S := by
          intro S
          cases h : alikeO q.1 q.2 with
          | none => exact repr_none
          | some ys =>
            obtain ⟨⟨g1, g2, g3⟩, -⟩ := good ys h
            exact repr_T g3 (by omega)
        have neS : ∀ (x : Str) (S : Sto), gNe (.d (.str x)) (.d (.str x)) S = .ok (.d (.bool false)) S := fun x S => by simp [gNe]
        refine wp_seq fun K2 k3 k4 => ?_
        simp [rep, wp_bind]
        refine (due_wp q.1 q.2 T2 (by omega)).mono ?_
        rintro v T3 ⟨rfl, rfl⟩
        simp [rep, neS, wp_bind]
        refine (alike_wp q.1 q.2 T3 (by omega)).mono ?_
        rintro v T4 ⟨rfl, rfl⟩
        simp [rep, neS]
        refine k3 _ _ ?_
        clear k3 k4 K2
        cases h : alikeO q.1 q.2 with
        | none =>
          simp [notN_eq, optD, isNone]
          exact k1 _ _ ⟨_, _, _, _, rfl⟩
        | some ys =>
          obtain ⟨⟨g1, g2, g3⟩, g4, g5⟩ := good ys h
          simp [notN_eq, optD, isnone_T, wp_bind]
          refine (called_wp q.1.1 ys q.1.2 T4 v1.rp.nodup g2.symm (fun t ht => (v1.lt t ht).2) (by omega) (by omega)).mono ?_
          rintro v T5 ⟨rfl, rfl⟩
          rw [g4, g5]
          have neW : gNe (.d (pW q.2)) (.d (pW q.2)) T5 = .ok (.d (.bool (!decide (q.2 = q.2)))) T5 := encW.ne q.2 q.2
          simp [neW]
          exact k1 _ _ ⟨_, _, _, _, rfl⟩
      · rintro ρ T ⟨o7, o8, o9, o10, rfl⟩
        exact kn _ _ ⟨_, _, _, _, _, _, _, _, _, _, rfl⟩
    by_cases hk0 : k = 0
    · have r7 := rest 7 (.inr rfl)
      simp [hk0] at r7
      simp [eqI, hk0, wp_bind]
      exact r7
    · simp [eqI, hk0, wp_bind]
      exact rest 6 (.inl rfl)
  · rintro ρ T ⟨o1, o2, o3, o4, o5, o6, o7, o8, o9, o10, rfl⟩
    refine kn _ _ ?_
    simp
end Z
set_option Elab.async false
set_option linter.all false
set_option maxRecDepth 100000
set_option maxHeartbeats 4000000
namespace Z
open PySem PySem.Spec PyProof.Rows L2 MV
structure Txt (mg : Str → Option Value) : Prop where
  b_all : mg "all" = none
  b_dict : mg "dict" = none
  b_int : mg "int" = none
  b_len : mg "len" = none
  b_list : mg "list" = none
  b_max : mg "max" = none
  b_min : mg "min" = none
  b_range : mg "range" = none
  b_repr : mg "repr" = none
  b_sorted : mg "sorted" = none
  b_tuple : mg "tuple" = none
  b_zip : mg "zip" = none
section
variable {P : Program} {w : World} {K : PySem.W.Frag} {mg : Str → Option Value} {base : Heap} {f : Addr} {fd : FuncData}
theorem sc_is_tied : FnScope n_is_tied ["web", "a", "b"] (defScope s_is_tied) := ⟨rfl, rfl, rfl, by decide +kernel, rfl, by decide +kernel, by decide +kernel⟩
theorem c_is_tied (T : Txt mg) (F : Fun K "is_tied" "is_tied" s_is_tied f fd) (hm : mg "is_tied" = some (.ref f))  : Cal P w K mg base 1 "is_tied" m_is_tied := by
  have hb := (F.binds (ps := ["web", "a", "b"]) fun _ _ _ _ _ _ us hl => match us, hl with | [_, _, _], _ => rfl)
  have hc := @cal_mk P w K mg base "is_tied" "is_tied" s_is_tied f fd n_is_tied ["web", "a", "b"] 0 3 y_is_tied F sc_is_tied rfl hm hb
  refine hc fun cdv A outer s H E hr gd => ?_
  have nd := sc_is_tied.nd
  have hu := hu_room hr
  exact ss1 (sRet (eCmp (oIn hu) (eTup (aC (eB (bMin rfl) rfl T.b_min (by decide +kernel) (aC (eV 1) (aC (eV 2) (aN)))) (aC (eB (bMax rfl) rfl T.b_max (by decide +kernel)
      (aC (eV 1) (aC (eV 2) (aN)))) (aN)))) (eIx hu (eV 0) (eInt))))
theorem sc_fits : FnScope n_fits ["one", "other", "names", "name"] (defScope s_fits) := ⟨rfl, rfl, rfl, by decide +kernel, rfl, by decide +kernel, by decide +kernel⟩
theorem c_fits (T : Txt mg) (F : Fun K "fits" "fits" s_fits f fd) (hm : mg "fits" = some (.ref f)) (C_is_tied : Cal P w K mg base 1 "is_tied" m_is_tied) : Cal P w K mg base 2 "fits" m_fits := by
  have hb := (F.binds (ps := ["one", "other", "names", "name"]) fun _ _ _ _ _ _ us hl => match us, hl with | [_, _, _, _], _ => rfl)
  have hc := @cal_mk P w K mg base "fits" "fits" s_fits f fd n_fits ["one", "other", "names", "name"] 1 4 y_fits F sc_fits rfl hm hb
  refine hc fun cdv A outer s H E hr gd => ?_
  have nd := sc_fits.nd
  have hu := hu_room hr
  exact ssC (sSetR 4 nd rfl (by first | exact Or.inl rfl | exact Or.inr rfl) (eIx hu (eIx hu (eV 0) (eInt)) (eB bLen rfl T.b_len (by decide +kernel) (aC (eV 2) (aN))))) (ssC (sFor PassesOwn.never rfl (iZ
      rfl T.b_zip (aC (eIx hu (eV 0) (eInt)) (aC (eV 2) (aN)))) (gT rfl (gsC (gN (i := 5) nd rfl (by first | exact Or.inl rfl | exact Or.inr rfl)) (gsC (gN (i := 6) nd rfl (by first | exact Or.inl rfl | exact Or.inr rfl)) (gsN)))) (ss1 (sIfR
      (bPw (wOr (bCmp (oEq hu) (eV 6) (eV 3)) (wOr1 (bCmp (oNe hu) (eCal C_is_tied hr gd (by first | decide | omega) rfl (aC (eV 0) (aC (eV 5) (aC (eV 4) (aN))))) (eCal C_is_tied
      hr gd (by first | decide | omega) rfl (aC (eV 1) (aC (eV 6) (aC (eV 3) (aN))))))))) (ss1 (sRet (eBl))) (ssN)))) (ss1 (sRet (eBl))))
theorem sc_named_on : FnScope n_named_on ["one", "other", "names"] (defScope s_named_on) := ⟨rfl, rfl, rfl, by decide +kernel, rfl, by decide +kernel, by decide +kernel⟩
theorem c_named_on (T : Txt mg) (F : Fun K "named_on" "named_on" s_named_on f fd) (hm : mg "named_on" = some (.ref f)) (C_fits : Cal P w K mg base 2 "fits" m_fits) : ∀ n, Cal P w K mg base (3 + n) "named_on" (m_named_on n)
  | 0 => cal_no F hm (F.binds (ps := ["one", "other", "names"]) fun _ _ _ _ _ _ us hl => match us, hl with | [_, _, _], _ => rfl)
  | n + 1 => by
    have C_self := c_named_on T F hm C_fits n
    have hb := (F.binds (ps := ["one", "other", "names"]) fun _ _ _ _ _ _ us hl => match us, hl with | [_, _, _], _ => rfl)
    have hc := @cal_mk P w K mg base "named_on" "named_on" s_named_on f fd n_named_on ["one", "other", "names"] (3 + n) 3 (y_named_on (m_named_on n)) F sc_named_on rfl hm hb
    refine hc fun cdv A outer s H E hr gd => ?_
    have nd := sc_named_on.nd
    have hu := hu_room hr
    exact ssC (sIfR (bCmp (oEq hu) (eB bLen rfl T.b_len (by decide +kernel) (aC (eV 2) (aN))) (eB bLen rfl T.b_len (by decide +kernel) (aC (eIx hu (eV 0) (eInt))
      (aN)))) (ss1 (sRet (eV 2))) (ssN)) (ssC (sFor PassesOwn.never rfl (iS (eIx hu (eV 1) (eInt))) (gN (i := 3) nd rfl (by first | exact Or.inl rfl | exact Or.inr rfl)) (ss1 (sIfR (bVal (eCal C_fits
      hr gd (by first | decide | omega) rfl (aC (eV 0) (aC (eV 1) (aC (eV 2) (aC (eV 3) (aN))))))) (ssC (sSetR 4 nd rfl (by first | exact Or.inl rfl | exact Or.inr rfl) (eCal C_self hr gd (by first | decide | omega) rfl (aC (eV 0) (aC (eV 1) (aC
      (eOp oAdd (eV 2) (eTup (aC (eV 3) (aN)))) (aN)))))) (ss1 (sIfR (bCmp oNotN (eV 4) (eNon)) (ss1 (sRet (eV 4))) (ssN)))) (ssN)))) (ss1 (sRet (eNon))))
theorem sc_alike : FnScope n_alike ["one", "other"] (defScope s_alike) := ⟨rfl, rfl, rfl, by decide +kernel, rfl, by decide +kernel, by decide +kernel⟩
theorem c_alike (T : Txt mg) (F : Fun K "alike" "alike" s_alike f fd) (hm : mg "alike" = some (.ref f)) (C_named_on : ∀ n, Cal P w K mg base (3 + n) "named_on" (m_named_on n)) : Cal P w K mg base 44 "alike" m_alike := by
  have hb := (F.binds (ps := ["one", "other"]) fun _ _ _ _ _ _ us hl => match us, hl with | [_, _], _ => rfl)
  have hc := @cal_mk P w K mg base "alike" "alike" s_alike f fd n_alike ["one", "other"] 43 2 y_alike F sc_alike rfl hm hb
  refine hc fun cdv A outer s H E hr gd => ?_
  have nd := sc_alike.nd
  have hu := hu_room hr
  exact ssC (sIfR (bPw (wOr (bCmp (oNe hu) (eB bLen rfl T.b_len (by decide +kernel) (aC (eIx hu (eV 0) (eInt)) (aN))) (eB bLen rfl T.b_len (by decide +kernel) (aC
      (eIx hu (eV 1) (eInt)) (aN)))) (wOr1 (bCmp (oNe hu) (eB bLen rfl T.b_len (by decide +kernel) (aC (eIx hu (eV 0) (eInt)) (aN))) (eB bLen rfl T.b_len (by decide +kernel)
      (aC (eIx hu (eV 1) (eInt)) (aN))))))) (ss1 (sRet (eNon))) (ssN)) (ss1 (sRet (eCal (C_named_on 40) hr gd (by first | decide | omega) rfl (aC (eV 0) (aC (eV 1) (aC (eTup (aN))
      (aN)))))))
theorem sc_l_hand_of : FnScope n_l_hand_of ["_law_script", "_law_k"] (defScope s_l_hand_of) := ⟨rfl, rfl, rfl, by decide +kernel, rfl, by decide +kernel, by decide +kernel⟩
theorem c_l_hand_of (T : Txt mg) (F : Fun K "_law_hand_of" "_law_hand_of" s_l_hand_of f fd) (hm : mg "_law_hand_of" = some (.ref f))  : Cal P w K mg base 1 "_law_hand_of" m_l_hand_of := by
  have hb := (F.binds (ps := ["_law_script", "_law_k"]) fun _ _ _ _ _ _ us hl => match us, hl with | [_, _], _ => rfl)
  have hc := @cal_mk P w K mg base "_law_hand_of" "_law_hand_of" s_l_hand_of f fd n_l_hand_of ["_law_script", "_law_k"] 0 2 y_l_hand_of F sc_l_hand_of rfl hm hb
  refine hc fun cdv A outer s H E hr gd => ?_
  have nd := sc_l_hand_of.nd
  have hu := hu_room hr
  exact ssC (sSetR 2 nd rfl (by first | exact Or.inl rfl | exact Or.inr rfl) (eInt)) (ssC (sIfR (bCmp oLt (eV 1) (eB bLen rfl T.b_len (by decide +kernel) (aC (eV 0) (aN)))) (ss1 (sSetR 2 nd rfl (by first | exact Or.inl rfl | exact Or.inr rfl) (eIx
      hu (eV 0) (eV 1)))) (ssN)) (ssC (sSetR 3 nd rfl (by first | exact Or.inl rfl | exact Or.inr rfl) (eOp oMul (eOp oMod (eV 2) (eOp oMul (eOp oMul (eOp oMul (eOp oPow (eInt) (eInt)) (eOp oPow (eInt)
      (eInt))) (eOp oPow (eInt) (eInt))) (eOp oPow (eInt) (eInt)))) (eT bInt rfl T.b_int (by decide +kernel) (aC (eCmp oGe (eV 2) (eOp oPow (eInt) (eInt)))
      (aN))))) (ss1 (sRet (eLst (aC (eV 3) (aC (eOp oMod (eOp oAdd (eOp oAdd (eOp oMod (eV 2) (eInt)) (eOp oMul (eInt) (eV 1))) (eInt)) (eInt)) (aC (eInt) (aN)))))))))
theorem sc_l_take : FnScope n_l_take ["_law_hand", "_law_many"] (defScope s_l_take) := ⟨rfl, rfl, rfl, by decide +kernel, rfl, by decide +kernel, by decide +kernel⟩
theorem c_l_take (T : Txt mg) (F : Fun K "_law_take" "_law_take" s_l_take f fd) (hm : mg "_law_take" = some (.ref f))  : Cal P w K mg base 1 "_law_take" m_l_take := by
  have hb := (F.binds (ps := ["_law_hand", "_law_many"]) fun _ _ _ _ _ _ us hl => match us, hl with | [_, _], _ => rfl)
  have hc := @cal_mk P w K mg base "_law_take" "_law_take" s_l_take f fd n_l_take ["_law_hand", "_law_many"] 0 2 y_l_take F sc_l_take rfl hm hb
  refine hc fun cdv A outer s H E hr gd => ?_
  have nd := sc_l_take.nd
  have hu := hu_room hr
  exact ssC (sIfR (bCmp oGt (eIx hu (eV 0) (eInt)) (eInt)) (ssC (sSetR 3 nd rfl (by first | exact Or.inl rfl | exact Or.inr rfl) (eOp oMod (eIx hu (eV 0) (eInt)) (eV 1))) (ssC (sPutR hu (eV 0) (eInt) (eOp
      oDiv (eIx hu (eV 0) (eInt)) (eV 1))) (ss1 (sRet (eV 3))))) (ssN)) (ssC (sPutR hu (eV 0) (eInt) (eOp oAdd (eIx hu (eV 0) (eInt)) (eInt))) (ssC (sSetR 2
      nd rfl (by first | exact Or.inl rfl | exact Or.inr rfl) (eOp oMod (eOp oMul (eOp oAdd (eOp oAdd (eIx hu (eV 0) (eInt)) (eOp oMul (eOp oMul (eInt) (eIx hu (eV 0) (eInt))) (eIx hu (eV 0) (eInt))))
      (eInt)) (eInt)) (eInt))) (ssC (sSetR 2 nd rfl (by first | exact Or.inl rfl | exact Or.inr rfl) (eOp oMod (eOp oMul (eV 2) (eOp oAdd (eOp oMod (eV 2) (eInt)) (eOp oMul (eInt) (eIx hu (eV 0) (eInt)))))
      (eInt))) (ss1 (sRet (eOp oMod (eOp oAdd (eOp oDiv (eV 2) (eInt)) (eOp oDiv (eV 2) (eInt))) (eV 1)))))))
theorem sc_l_pick : FnScope n_l_pick ["_law_hand", "_law_some"] (defScope s_l_pick) := ⟨rfl, rfl, rfl, by decide +kernel, rfl, by decide +kernel, by decide +kernel⟩
theorem c_l_pick (T : Txt mg) (F : Fun K "_law_pick" "_law_pick" s_l_pick f fd) (hm : mg "_law_pick" = some (.ref f)) (C_l_take : Cal P w K mg base 1 "_law_take" m_l_take) : Cal P w K mg base 2 "_law_pick" m_l_pick := by
  have hb := (F.binds (ps := ["_law_hand", "_law_some"]) fun _ _ _ _ _ _ us hl => match us, hl with | [_, _], _ => rfl)
  have hc := @cal_mk P w K mg base "_law_pick" "_law_pick" s_l_pick f fd n_l_pick ["_law_hand", "_law_some"] 1 2 y_l_pick F sc_l_pick rfl hm hb
  refine hc fun cdv A outer s H E hr gd => ?_
  have nd := sc_l_pick.nd
  have hu := hu_room hr
  exact ss1 (sRet (eIx hu (eV 1) (eCal C_l_take hr gd (by first | decide | omega) rfl (aC (eV 0) (aC (eB bLen rfl T.b_len (by decide +kernel) (aC (eV 1) (aN))) (aN))))))
theorem sc_l_shuffled : FnScope n_l_shuffled ["_law_hand", "_law_some"] (defScope s_l_shuffled) := ⟨rfl, rfl, rfl, by decide +kernel, rfl, by decide +kernel, by decide +kernel⟩
theorem c_l_shuffled (T : Txt mg) (F : Fun K "_law_shuffled" "_law_shuffled" s_l_shuffled f fd) (hm : mg "_law_shuffled" = some (.ref f)) (C_l_take : Cal P w K mg base 1 "_law_take" m_l_take) : Cal P w K mg base 2 "_law_shuffled" m_l_shuffled := by
  have hb := (F.binds (ps := ["_law_hand", "_law_some"]) fun _ _ _ _ _ _ us hl => match us, hl with | [_, _], _ => rfl)
  have hc := @cal_mk P w K mg base "_law_shuffled" "_law_shuffled" s_l_shuffled f fd n_l_shuffled ["_law_hand", "_law_some"] 1 2 y_l_shuffled F sc_l_shuffled rfl hm hb
  refine hc fun cdv A outer s H E hr gd => ?_
  have nd := sc_l_shuffled.nd
  have hu := hu_room hr
  exact ssC (sCellR 2 nd rfl (by first | exact Or.inl rfl | exact Or.inr rfl) (eLst (aN))) (ssC (sFor PassesOwn.never rfl (iS (eV 1)) (gN (i := 3) nd rfl (by first | exact Or.inl rfl | exact Or.inr rfl)) (ss1 (sExpr (eM PySem.F.plainAttrs_list PySem.F.slot_list_insert
      PySem.F.type_list_insert mInsert (eV 2) (aC (eCal C_l_take hr gd (by first | decide | omega) rfl (aC (eV 0) (aC (eOp oAdd (eB bLen rfl T.b_len (by decide +kernel) (aC (eV 2)
      (aN))) (eInt)) (aN)))) (aC (eV 3) (aN))))))) (ss1 (sRet (eV 2))))
theorem sc_l_places_drawn : FnScope n_l_places_drawn ["_law_hand", "_law_many"] (defScope s_l_places_drawn) := ⟨rfl, rfl, rfl, by decide +kernel, rfl, by decide +kernel, by decide +kernel⟩
theorem c_l_places_drawn (T : Txt mg) (F : Fun K "_law_places_drawn" "_law_places_drawn" s_l_places_drawn f fd) (hm : mg "_law_places_drawn" = some (.ref f)) (C_l_pick : Cal P w K mg base 2 "_law_pick" m_l_pick) : Cal P w K mg base 3 "_law_places_drawn" m_l_places_drawn := by
  have hb := (F.binds (ps := ["_law_hand", "_law_many"]) fun _ _ _ _ _ _ us hl => match us, hl with | [_, _], _ => rfl)
  have hc := @cal_mk P w K mg base "_law_places_drawn" "_law_places_drawn" s_l_places_drawn f fd n_l_places_drawn ["_law_hand", "_law_many"] 2 2 y_l_places_drawn F sc_l_places_drawn rfl hm hb
  refine hc fun cdv A outer s H E hr gd => ?_
  have nd := sc_l_places_drawn.nd
  have hu := hu_room hr
  exact ssC (sSetR 2 nd rfl (by first | exact Or.inl rfl | exact Or.inr rfl) (eCal C_l_pick hr gd (by first | decide | omega) rfl (aC (eV 0) (aC (eLst (aC (eInt) (aC (eInt) (aC (eInt) (aC (eInt) (aN)))))) (aN))))) (ssC (sSetR
      3 nd rfl (by first | exact Or.inl rfl | exact Or.inr rfl) (eCal C_l_pick hr gd (by first | decide | omega) rfl (aC (eV 0) (aC (eLst (aC (eInt) (aC (eInt) (aC (eInt) (aC (eOp oSub (eInt) (eOp oMul (eV 2) (eB (bMax rfl)
      rfl T.b_max (by decide +kernel) (aC (eInt) (aC (eOp oSub (eV 1) (eInt)) (aN)))))) (aN)))))) (aN))))) (ss1 (sRet (eT bTuple rfl T.b_tuple (by decide +kernel)
      (aC (eComp (own := [("_law_k", 4)]) rfl nd (iR1 rfl T.b_range (aC (eV 1) (aN))) (blkOk_by (by kernel_rfl)) (by decide) (fun _ _ _ _ _ => gN (i := 4) nd
      rfl (by first | exact Or.inl rfl | exact Or.inr rfl)) (fun _ _ _ _ _ => tsN) (fun _ _ _ _ _ => eOp oAdd (eV 3) (eOp oMul (eV 2) (eV 4)))) (aN))))))
theorem sc_l_web_drawn : FnScope n_l_web_drawn ["_law_hand", "_law_many", "_law_most"] (defScope s_l_web_drawn) := ⟨rfl, rfl, rfl, by decide +kernel, rfl, by decide +kernel, by decide +kernel⟩
theorem c_l_web_drawn (T : Txt mg) (F : Fun K "_law_web_drawn" "_law_web_drawn" s_l_web_drawn f fd) (hm : mg "_law_web_drawn" = some (.ref f)) (C_l_take : Cal P w K mg base 1 "_law_take" m_l_take) (C_l_pick : Cal P w K mg base 2 "_law_pick" m_l_pick) (C_l_shuffled : Cal P w K mg base 2 "_law_shuffled" m_l_shuffled) (C_l_places_drawn : Cal P w K mg base 3 "_law_places_drawn" m_l_places_drawn) : Cal P w K mg base 4 "_law_web_drawn" m_l_web_drawn := by
  have hb := (F.binds (ps := ["_law_hand", "_law_many", "_law_most"]) fun _ _ _ _ _ _ us hl => match us, hl with | [_, _, _], _ => rfl)
  have hc := @cal_mk P w K mg base "_law_web_drawn" "_law_web_drawn" s_l_web_drawn f fd n_l_web_drawn ["_law_hand", "_law_many", "_law_most"] 3 3 y_l_web_drawn F sc_l_web_drawn rfl hm hb
  refine hc fun cdv A outer s H E hr gd => ?_
  have nd := sc_l_web_drawn.nd
  have hu := hu_room hr
  exact ssC (sMulR rfl (aVC (eCal C_l_pick hr gd (by first | decide | omega) rfl (aC (eV 0) (aC (eLst (aC (eInt) (aC (eInt) (aC (eInt) (aC (eInt) (aC (eInt) (aN))))))) (aN)))) (aVC (eCmp
      (oEq hu) (eCal C_l_take hr gd (by first | decide | omega) rfl (aC (eV 0) (aC (eInt) (aN)))) (eInt)) (aNC))) (gnC nd rfl (by first | exact Or.inl rfl | exact Or.inr rfl) (gnC nd rfl (by first | exact Or.inl rfl | exact Or.inr rfl) (gnN)))) (ssC (sMulR rfl (aVC
      (eCal C_l_places_drawn hr gd (by first | decide | omega) rfl (aC (eV 0) (aC (eV 1) (aN)))) (aCC (eLst (aN)) (aNC))) (gnC nd rfl (by first | exact Or.inl rfl | exact Or.inr rfl) (gnC nd rfl (by first | exact Or.inl rfl | exact Or.inr rfl) (gnN)))) (ssC (sFor
      PassesOwn.never rfl (iR2 rfl T.b_range (aC (eInt) (aC (eV 1) (aN)))) (gN (i := 3) nd rfl (by first | exact Or.inl rfl | exact Or.inr rfl)) (ssC (sIfR (bVal (eV 6)) (ss1 (sExpr (eM PySem.F.plainAttrs_list
      PySem.F.slot_list_append PySem.F.type_list_append mAppend (eV 4) (aC (eTup (aC (eCal C_l_take hr gd (by first | decide | omega) rfl (aC (eV 0) (aC (eV 3) (aN)))) (aC (eV 3)
      (aN)))) (aN))))) (ssN)) (ss1 (sExpr (eM PySem.F.plainAttrs_list PySem.F.slot_list_extend PySem.F.type_list_extend mExtend (eV 4) (aC (eComp (own := [("_law_a",
      8)]) rfl nd (iR1 rfl T.b_range (aC (eV 3) (aN))) (blkOk_by (by kernel_rfl)) (by decide) (fun _ _ _ _ _ => gN (i := 8) nd rfl (by first | exact Or.inl rfl | exact Or.inr rfl)) (fun _ _ _ _ _ =>
      ts1 (bPw (wAnd (bCmp (oNotIn hu) (eTup (aC (eV 8) (aC (eV 3) (aN)))) (eV 4)) (wAnd1 (bCmp (oEq hu) (eCal C_l_take hr gd (by first | decide | omega) rfl (aC (eV 0) (aC (eV 5)
      (aN)))) (eInt)))))) (fun _ _ _ _ _ => eTup (aC (eV 8) (aC (eV 3) (aN))))) (aN))))))) (ssC (sCellR 4 nd rfl (by first | exact Or.inl rfl | exact Or.inr rfl) (eB (bSorted hu) rfl T.b_sorted (by decide +kernel)
      (aC (eSl (eCal C_l_shuffled hr gd (by first | decide | omega) rfl (aC (eV 0) (aC (eV 4) (aN)))) (poN) (poS (eV 2))) (aN)))) (ss1 (sRet (eTup (aC (eV 7) (aC (eT bTuple rfl T.b_tuple
      (by decide +kernel) (aC (eComp (own := [("_law_a", 8), ("_law_b", 3)]) rfl nd (iS (eV 4)) (blkOk_by (by kernel_rfl)) (by decide) (fun _ _ _ _ _ => gT
      rfl (gsC (gN (i := 8) nd rfl (by first | exact Or.inl rfl | exact Or.inr rfl)) (gsC (gN (i := 3) nd rfl (by first | exact Or.inl rfl | exact Or.inr rfl)) (gsN)))) (fun _ _ _ _ _ => tsN) (fun _ _ _ _ _ => eTup (aC (eIx hu (eV 7) (eV 8))
      (aC (eIx hu (eV 7) (eV 3)) (aN))))) (aN))) (aN)))))))))
theorem sc_l_ring_ties : FnScope n_l_ring_ties ["_law_first", "_law_many"] (defScope s_l_ring_ties) := ⟨rfl, rfl, rfl, by decide +kernel, rfl, by decide +kernel, by decide +kernel⟩
theorem c_l_ring_ties (T : Txt mg) (F : Fun K "_law_ring_ties" "_law_ring_ties" s_l_ring_ties f fd) (hm : mg "_law_ring_ties" = some (.ref f))  : Cal P w K mg base 1 "_law_ring_ties" m_l_ring_ties := by
  have hb := (F.binds (ps := ["_law_first", "_law_many"]) fun _ _ _ _ _ _ us hl => match us, hl with | [_, _], _ => rfl)
  have hc := @cal_mk P w K mg base "_law_ring_ties" "_law_ring_ties" s_l_ring_ties f fd n_l_ring_ties ["_law_first", "_law_many"] 0 2 y_l_ring_ties F sc_l_ring_ties rfl hm hb
  refine hc fun cdv A outer s H E hr gd => ?_
  have nd := sc_l_ring_ties.nd
  have hu := hu_room hr
  exact ss1 (sRet (eOp oAdd (eComp (own := [("_law_k", 2)]) rfl nd (iR1 rfl T.b_range (aC (eOp oSub (eV 1) (eInt)) (aN))) (blkOk_by (by kernel_rfl)) (by decide)
      (fun _ _ _ _ _ => gN (i := 2) nd rfl (by first | exact Or.inl rfl | exact Or.inr rfl)) (fun _ _ _ _ _ => tsN) (fun _ _ _ _ _ => eTup (aC (eOp oAdd (eV 0) (eV 2)) (aC (eOp oAdd (eOp oAdd (eV 0)
      (eV 2)) (eInt)) (aN))))) (eLst (aC (eTup (aC (eV 0) (aC (eOp oSub (eOp oAdd (eV 0) (eV 1)) (eInt)) (aN)))) (aN)))))
theorem sc_l_web_of : FnScope n_l_web_of ["_law_hand", "_law_most"] (defScope s_l_web_of) := ⟨rfl, rfl, rfl, by decide +kernel, rfl, by decide +kernel, by decide +kernel⟩
theorem c_l_web_of (T : Txt mg) (F : Fun K "_law_web_of" "_law_web_of" s_l_web_of f fd) (hm : mg "_law_web_of" = some (.ref f)) (C_l_take : Cal P w K mg base 1 "_law_take" m_l_take) (C_l_pick : Cal P w K mg base 2 "_law_pick" m_l_pick) (C_l_web_drawn : Cal P w K mg base 4 "_law_web_drawn" m_l_web_drawn) (C_l_ring_ties : Cal P w K mg base 1 "_law_ring_ties" m_l_ring_ties) : Cal P w K mg base 5 "_law_web_of" m_l_web_of := by
  have hb := (F.binds (ps := ["_law_hand", "_law_most"]) fun _ _ _ _ _ _ us hl => match us, hl with | [_, _], _ => rfl)
  have hc := @cal_mk P w K mg base "_law_web_of" "_law_web_of" s_l_web_of f fd n_l_web_of ["_law_hand", "_law_most"] 4 2 y_l_web_of F sc_l_web_of rfl hm hb
  refine hc fun cdv A outer s H E hr gd => ?_
  have nd := sc_l_web_of.nd
  have hu := hu_room hr
  exact ssC (sParC 6 7 rfl nd rfl rfl (by decide) rfl rfl (aVC (eCal C_l_take hr gd (by first | decide | omega) rfl (aC (eV 0) (aC (eInt) (aN)))) (aVC (eCal C_l_pick hr gd (by first | decide | omega) rfl
      (aC (eV 0) (aC (eLst (aC (eV 1) (aC (eInt) (aC (eInt) (aC (eInt) (aC (eInt) (aC (eInt) (aC (eInt) (aC (eInt) (aN)))))))))) (aN)))) (aNC)))) (ssC (sIfR
      (bCmp oLt (eV 6) (eInt)) (ss1 (sRet (eCal C_l_web_drawn hr gd (by first | decide | omega) rfl (aC (eV 0) (aC (eV 7) (aC (eInt) (aN))))))) (ssN)) (ssC (sSetR 2 nd rfl (by first | exact Or.inl rfl | exact Or.inr rfl)
      (eOp oAdd (eCal C_l_ring_ties hr gd (by first | decide | omega) rfl (aC (eInt) (aC (eInt) (aN)))) (eCal C_l_ring_ties hr gd (by first | decide | omega) rfl (aC (eInt) (aC (eInt) (aN)))))) (ssC (sSetR
      3 nd rfl (by first | exact Or.inl rfl | exact Or.inr rfl) (eLst (aC (eLst (aC (eTup (aC (eInt) (aC (eInt) (aN)))) (aC (eTup (aC (eInt) (aC (eInt) (aN)))) (aC (eTup (aC (eInt) (aC (eInt) (aN))))
      (aN))))) (aC (eCal C_l_ring_ties hr gd (by first | decide | omega) rfl (aC (eInt) (aC (eInt) (aN)))) (aC (eV 2) (aC (eCal C_l_ring_ties hr gd (by first | decide | omega) rfl (aC (eInt) (aC (eInt)
      (aN)))) (aN))))))) (ssC (sSetR 4 nd rfl (by first | exact Or.inl rfl | exact Or.inr rfl) (eIx hu (eV 3) (eOp oSub (eV 6) (eInt)))) (ssC (sSetR 5 nd rfl (by first | exact Or.inl rfl | exact Or.inr rfl) (eTupleRange1 rfl rfl T.b_tuple rfl
      T.b_range (eOp oAdd (eInt) (eB (bMax rfl) rfl T.b_max (by decide +kernel) (aC (eComp (own := [("_law_a", 8), ("_law_b", 9)]) rfl nd (iS (eV 4)) (blkOk_by
      (by kernel_rfl)) (by decide) (fun _ _ _ _ _ => gT rfl (gsC (gN (i := 8) nd rfl (by first | exact Or.inl rfl | exact Or.inr rfl)) (gsC (gN (i := 9) nd rfl (by first | exact Or.inl rfl | exact Or.inr rfl)) (gsN)))) (fun _ _ _ _ _ => tsN)
      (fun _ _ _ _ _ => eV 9)) (aN)))))) (ss1 (sRet (eTup (aC (eV 5) (aC (eT bTuple rfl T.b_tuple (by decide +kernel) (aC (eB (bSorted hu) rfl T.b_sorted (by decide +kernel)
      (aC (eV 4) (aN))) (aN))) (aN)))))))))))
theorem sc_l_called_by : FnScope n_l_called_by ["_law_web", "_law_names"] (defScope s_l_called_by) := ⟨rfl, rfl, rfl, by decide +kernel, rfl, by decide +kernel, by decide +kernel⟩
theorem c_l_called_by (T : Txt mg) (F : Fun K "_law_called_by" "_law_called_by" s_l_called_by f fd) (hm : mg "_law_called_by" = some (.ref f))  : Cal P w K mg base 1 "_law_called_by" m_l_called_by := by
  have hb := (F.binds (ps := ["_law_web", "_law_names"]) fun _ _ _ _ _ _ us hl => match us, hl with | [_, _], _ => rfl)
  have hc := @cal_mk P w K mg base "_law_called_by" "_law_called_by" s_l_called_by f fd n_l_called_by ["_law_web", "_law_names"] 0 2 y_l_called_by F sc_l_called_by rfl hm hb
  refine hc fun cdv A outer s H E hr gd => ?_
  have nd := sc_l_called_by.nd
  have hu := hu_room hr
  exact ssC (sCellR 2 nd rfl (by first | exact Or.inl rfl | exact Or.inr rfl) (eDictZip rfl rfl T.b_dict rfl T.b_zip (aC (eIx hu (eV 0) (eInt)) (aC (eV 1) (aN))))) (ss1 (sRet (eTup (aC (eT bTuple rfl T.b_tuple
      (by decide +kernel) (aC (eB (bSorted hu) rfl T.b_sorted (by decide +kernel) (aC (eV 1) (aN))) (aN))) (aC (eT bTuple rfl T.b_tuple (by decide +kernel)
      (aC (eB (bSorted hu) rfl T.b_sorted (by decide +kernel) (aC (eComp (own := [("_law_a", 3), ("_law_b", 4)]) rfl nd (iS (eIx hu (eV 0) (eInt))) (blkOk_by
      (by kernel_rfl)) (by decide) (fun _ _ _ _ _ => gT rfl (gsC (gN (i := 3) nd rfl (by first | exact Or.inl rfl | exact Or.inr rfl)) (gsC (gN (i := 4) nd rfl (by first | exact Or.inl rfl | exact Or.inr rfl)) (gsN)))) (fun _ _ _ _ _ => tsN)
      (fun _ _ _ _ _ => eT bTuple rfl T.b_tuple (by decide +kernel) (aC (eB (bSorted hu) rfl T.b_sorted (by decide +kernel) (aC (eLst (aC (eIx hu (eV 2) (eV
      3)) (aC (eIx hu (eV 2) (eV 4)) (aN)))) (aN))) (aN)))) (aN))) (aN))) (aN))))))
theorem sc_l_changed : FnScope n_l_changed ["_law_hand", "_law_web"] (defScope s_l_changed) := ⟨rfl, rfl, rfl, by decide +kernel, rfl, by decide +kernel, by decide +kernel⟩
theorem c_l_changed (T : Txt mg) (F : Fun K "_law_changed" "_law_changed" s_l_changed f fd) (hm : mg "_law_changed" = some (.ref f)) (C_l_take : Cal P w K mg base 1 "_law_take" m_l_take) (C_l_pick : Cal P w K mg base 2 "_law_pick" m_l_pick) : Cal P w K mg base 3 "_law_changed" m_l_changed := by
  have hb := (F.binds (ps := ["_law_hand", "_law_web"]) fun _ _ _ _ _ _ us hl => match us, hl with | [_, _], _ => rfl)
  have hc := @cal_mk P w K mg base "_law_changed" "_law_changed" s_l_changed f fd n_l_changed ["_law_hand", "_law_web"] 2 2 y_l_changed F sc_l_changed rfl hm hb
  refine hc fun cdv A outer s H E hr gd => ?_
  have nd := sc_l_changed.nd
  have hu := hu_room hr
  exact ssC (sMulR rfl (aVC (eCal C_l_take hr gd (by first | decide | omega) rfl (aC (eV 0) (aC (eInt) (aN)))) (aVC (eIx hu (eV 1) (eInt)) (aCC (eT bList rfl T.b_list (by decide +kernel)
      (aC (eIx hu (eV 1) (eInt)) (aN))) (aNC)))) (gnC nd rfl (by first | exact Or.inl rfl | exact Or.inr rfl) (gnC nd rfl (by first | exact Or.inl rfl | exact Or.inr rfl) (gnC nd rfl (by first | exact Or.inl rfl | exact Or.inr rfl) (gnN))))) (ssC (sCellR 2 nd rfl (by first | exact Or.inl rfl | exact Or.inr rfl) (eLst (aN))) (ssC
      (sFor PassesOwn.never rfl (iS (eV 5)) (gN (i := 3) nd rfl (by first | exact Or.inl rfl | exact Or.inr rfl)) (ss1 (sExpr (eM PySem.F.plainAttrs_list PySem.F.slot_list_extend PySem.F.type_list_extend
      mExtend (eV 2) (aC (eComp (own := [("_law_a", 7)]) rfl nd (iS (eV 5)) (blkOk_by (by kernel_rfl)) (by decide) (fun _ _ _ _ _ => gN (i := 7) nd rfl (by first | exact Or.inl rfl | exact Or.inr rfl))
      (fun _ _ _ _ _ => ts1 (bPw (wAnd (bCmp oLt (eV 7) (eV 3)) (wAnd1 (bCmp (oNotIn hu) (eTup (aC (eV 7) (aC (eV 3) (aN)))) (eV 6)))))) (fun _ _ _ _ _ => eTup
      (aC (eV 7) (aC (eV 3) (aN))))) (aN)))))) (ssC (sIfR (bPw (wAnd (bCmp (oIn hu) (eV 4) (eTup (aC (eInt) (aC (eInt) (aN))))) (wAnd1 (bCmp (oNe hu) (eV 6)
      (eLst (aN)))))) (ss1 (sExpr (eM PySem.F.plainAttrs_list PySem.F.slot_list_remove PySem.F.type_list_remove (mRemoveD hu) (eV 6) (aC (eCal C_l_pick hr gd
      (by first | decide | omega) rfl (aC (eV 0) (aC (eV 6) (aN)))) (aN))))) (ssN)) (ssC (sIfR (bPw (wAnd (bCmp (oIn hu) (eV 4) (eTup (aC (eInt) (aC (eInt) (aN))))) (wAnd1 (bCmp
      (oNe hu) (eV 2) (eLst (aN)))))) (ss1 (sExpr (eM PySem.F.plainAttrs_list PySem.F.slot_list_append PySem.F.type_list_append mAppend (eV 6) (aC (eCal C_l_pick
      hr gd (by first | decide | omega) rfl (aC (eV 0) (aC (eV 2) (aN)))) (aN))))) (ssN)) (ssC (sIfR (bPw (wAnd (bCmp (oEq hu) (eV 4) (eInt)) (wAnd1 (bCmp oLt (eB bLen rfl T.b_len
      (by decide +kernel) (aC (eV 5) (aN))) (eInt))))) (ss1 (sSetR 5 nd rfl (by first | exact Or.inl rfl | exact Or.inr rfl) (eT bTuple rfl T.b_tuple (by decide +kernel) (aC (eB (bSorted hu) rfl T.b_sorted
      (by decide +kernel) (aC (eOp oAdd (eV 5) (eTup (aC (eCal C_l_pick hr gd (by first | decide | omega) rfl (aC (eV 0) (aC (eComp (own := [("_law_place", 8)]) rfl nd (iR1 rfl T.b_range
      (aC (eInt) (aN))) (blkOk_by (by kernel_rfl)) (by decide) (fun _ _ _ _ _ => gN (i := 8) nd rfl (by first | exact Or.inl rfl | exact Or.inr rfl)) (fun _ _ _ _ _ => ts1 (bCmp (oNotIn hu) (eV 8) (eV
      5))) (fun _ _ _ _ _ => eV 8)) (aN)))) (aN)))) (aN))) (aN))))) (ssN)) (ss1 (sRet (eTup (aC (eV 5) (aC (eT bTuple rfl T.b_tuple (by decide +kernel) (aC
      (eB (bSorted hu) rfl T.b_sorted (by decide +kernel) (aC (eV 6) (aN))) (aN))) (aN)))))))))))
theorem sc_l_tied : FnScope n_l_tied ["_law_web", "_law_a", "_law_b"] (defScope s_l_tied) := ⟨rfl, rfl, rfl, by decide +kernel, rfl, by decide +kernel, by decide +kernel⟩
theorem c_l_tied (T : Txt mg) (F : Fun K "_law_tied" "_law_tied" s_l_tied f fd) (hm : mg "_law_tied" = some (.ref f))  : Cal P w K mg base 1 "_law_tied" m_l_tied := by
  have hb := (F.binds (ps := ["_law_web", "_law_a", "_law_b"]) fun _ _ _ _ _ _ us hl => match us, hl with | [_, _, _], _ => rfl)
  have hc := @cal_mk P w K mg base "_law_tied" "_law_tied" s_l_tied f fd n_l_tied ["_law_web", "_law_a", "_law_b"] 0 3 y_l_tied F sc_l_tied rfl hm hb
  refine hc fun cdv A outer s H E hr gd => ?_
  have nd := sc_l_tied.nd
  have hu := hu_room hr
  exact ss1 (sRet (eCmp (oIn hu) (eTup (aC (eB (bMin rfl) rfl T.b_min (by decide +kernel) (aC (eV 1) (aC (eV 2) (aN)))) (aC (eB (bMax rfl) rfl T.b_max (by decide +kernel)
      (aC (eV 1) (aC (eV 2) (aN)))) (aN)))) (eIx hu (eV 0) (eInt))))
theorem sc_l_least_names : FnScope n_l_least_names ["_law_one", "_law_other", "_law_names"] (defScope s_l_least_names) := ⟨rfl, rfl, rfl, by decide +kernel, rfl, by decide +kernel, by decide +kernel⟩
theorem c_l_least_names (T : Txt mg) (F : Fun K "_law_least_names" "_law_least_names" s_l_least_names f fd) (hm : mg "_law_least_names" = some (.ref f)) (C_l_tied : Cal P w K mg base 1 "_law_tied" m_l_tied) : ∀ n, Cal P w K mg base (2 + n) "_law_least_names" (m_l_least_names n)
  | 0 => cal_no F hm (F.binds (ps := ["_law_one", "_law_other", "_law_names"]) fun _ _ _ _ _ _ us hl => match us, hl with | [_, _, _], _ => rfl)
  | n + 1 => by
    have C_self := c_l_least_names T F hm C_l_tied n
    have hb := (F.binds (ps := ["_law_one", "_law_other", "_law_names"]) fun _ _ _ _ _ _ us hl => match us, hl with | [_, _, _], _ => rfl)
    have hc := @cal_mk P w K mg base "_law_least_names" "_law_least_names" s_l_least_names f fd n_l_least_names ["_law_one", "_law_other", "_law_names"] (2 + n) 3 (y_l_least_names (m_l_least_names n)) F sc_l_least_names rfl hm hb
    refine hc fun cdv A outer s H E hr gd => ?_
    have nd := sc_l_least_names.nd
    have hu := hu_room hr
    exact ssC (sSetR 3 nd rfl (by first | exact Or.inl rfl | exact Or.inr rfl) (eB bLen rfl T.b_len (by decide +kernel) (aC (eV 2) (aN)))) (ssC (sIfR (bCmp (oEq hu) (eV 3) (eB bLen rfl T.b_len (by decide +kernel)
      (aC (eIx hu (eV 0) (eInt)) (aN)))) (ss1 (sRet (eV 2))) (ssN)) (ssC (sFor PassesOwn.never rfl (iS (eComp (own := [("_law_name", 4)]) rfl nd (iS (eIx hu
      (eV 1) (eInt))) (blkOk_by (by kernel_rfl)) (by decide) (fun _ _ _ _ _ => gN (i := 4) nd rfl (by first | exact Or.inl rfl | exact Or.inr rfl)) (fun _ _ _ _ _ => ts1 (bCmp (oNotIn hu) (eV 4) (eV
      2))) (fun _ _ _ _ _ => eV 4))) (gN (i := 4) nd rfl (by first | exact Or.inl rfl | exact Or.inr rfl)) (ssC (sSetLc 5 (own := [("_law_k", 7)]) rfl nd rfl rfl (sw_true rfl rfl rfl (by decide +kernel))
      (iR1 rfl T.b_range (aC (eV 3) (aN))) (blkOk_by (by kernel_rfl)) (by decide) (fun _ _ _ _ _ => gN (i := 7) nd rfl (by first | exact Or.inl rfl | exact Or.inr rfl)) (fun _ _ _ _ _ => tsN) (fun _
      _ _ _ _ => eCmp (oEq hu) (eCal C_l_tied hr gd (by first | decide | omega) rfl (aC (eV 0) (aC (eIx hu (eIx hu (eV 0) (eInt)) (eV 7)) (aC (eIx hu (eIx hu (eV 0) (eInt)) (eV 3))
      (aN))))) (eCal C_l_tied hr gd (by first | decide | omega) rfl (aC (eV 1) (aC (eIx hu (eV 2) (eV 7)) (aC (eV 4) (aN))))))) (ssC (sSetR 6 nd rfl (by first | exact Or.inl rfl | exact Or.inr rfl) (eIf (bVal (eB (bAll rfl)
      rfl T.b_all (by decide +kernel) (aC (eV 5) (aN)))) (eCal C_self hr gd (by first | decide | omega) rfl (aC (eV 0) (aC (eV 1) (aC (eOp oAdd (eV 2) (eTup (aC (eV 4) (aN)))) (aN)))))
      (eNon))) (ss1 (sIfR (bCmp oNotN (eV 6) (eNon)) (ss1 (sRet (eV 6))) (ssN)))))) (ss1 (sRet (eNon)))))
theorem sc_l_due_names : FnScope n_l_due_names ["_law_one", "_law_other"] (defScope s_l_due_names) := ⟨rfl, rfl, rfl, by decide +kernel, rfl, by decide +kernel, by decide +kernel⟩
theorem c_l_due_names (T : Txt mg) (F : Fun K "_law_due_names" "_law_due_names" s_l_due_names f fd) (hm : mg "_law_due_names" = some (.ref f)) (C_l_least_names : ∀ n, Cal P w K mg base (2 + n) "_law_least_names" (m_l_least_names n)) : Cal P w K mg base 43 "_law_due_names" m_l_due_names := by
  have hb := (F.binds (ps := ["_law_one", "_law_other"]) fun _ _ _ _ _ _ us hl => match us, hl with | [_, _], _ => rfl)
  have hc := @cal_mk P w K mg base "_law_due_names" "_law_due_names" s_l_due_names f fd n_l_due_names ["_law_one", "_law_other"] 42 2 y_l_due_names F sc_l_due_names rfl hm hb
  refine hc fun cdv A outer s H E hr gd => ?_
  have nd := sc_l_due_names.nd
  have hu := hu_room hr
  exact ssC (sIfR (bPw (wOr (bCmp (oNe hu) (eB bLen rfl T.b_len (by decide +kernel) (aC (eIx hu (eV 0) (eInt)) (aN))) (eB bLen rfl T.b_len (by decide +kernel) (aC
      (eIx hu (eV 1) (eInt)) (aN)))) (wOr1 (bCmp (oNe hu) (eB bLen rfl T.b_len (by decide +kernel) (aC (eIx hu (eV 0) (eInt)) (aN))) (eB bLen rfl T.b_len (by decide +kernel)
      (aC (eIx hu (eV 1) (eInt)) (aN))))))) (ss1 (sRet (eNon))) (ssN)) (ss1 (sRet (eCal (C_l_least_names 40) hr gd (by first | decide | omega) rfl (aC (eV 0) (aC (eV 1) (aC (eTup
      (aN)) (aN)))))))
theorem sc_law : FnScope n_law ["_law_script"] (defScope s_law) := ⟨rfl, rfl, rfl, by decide +kernel, rfl, by decide +kernel, by decide +kernel⟩

theorem o_law (T : Txt mg) (F : Fun K "law" "law" s_law f fd) (C_alike : Cal P w K mg base 44 "alike" m_alike) (C_l_hand_of : Cal P w K mg base 1 "_law_hand_of" m_l_hand_of) (C_l_pick : Cal P w K mg base 2 "_law_pick" m_l_pick) (C_l_shuffled : Cal P w K mg base 2 "_law_shuffled" m_l_shuffled) (C_l_web_drawn : Cal P w K mg base 4 "_law_web_drawn" m_l_web_drawn) (C_l_web_of : Cal P w K mg base 5 "_law_web_of" m_l_web_of) (C_l_called_by : Cal P w K mg base 1 "_law_called_by" m_l_called_by) (C_l_changed : Cal P w K mg base 3 "_law_changed" m_l_changed) (C_l_due_names : Cal P w K mg base 43 "_law_due_names" m_l_due_names) : FnG P w K mg base 45 f fd ["_law_script"] (spF K m_law) := by
  have hc := @fn_ok K P w mg base "law" "law" s_law f fd n_law ["_law_script"] 44 1 y_law F sc_law rfl
  refine hc fun cdv A outer s H E hr gd => ?_
  have nd := sc_law.nd
  have hu := hu_room hr
  exact ssC (sFor PassesOwn.never rfl (iR1 rfl T.b_range (aC (eB (bMax rfl) rfl T.b_max (by decide +kernel) (aC (eInt) (aC (eB (bMin rfl) rfl T.b_min (by decide +kernel)
      (aC (eInt) (aC (eB bLen rfl T.b_len (by decide +kernel) (aC (eV 0) (aN))) (aN)))) (aN)))) (aN))) (gN (i := 1) nd rfl (by first | exact Or.inl rfl | exact Or.inr rfl)) (ssC (sCellR 2 nd rfl (by first | exact Or.inl rfl | exact Or.inr rfl)
      (eCal C_l_hand_of hr gd (by first | decide | omega) rfl (aC (eV 0) (aC (eV 1) (aN))))) (ssC (sSetR 3 nd rfl (by first | exact Or.inl rfl | exact Or.inr rfl) (eCal C_l_web_of hr gd (by first | decide | omega) rfl (aC (eV 2) (aC (eIf (bCmp
      (oEq hu) (eV 1) (eInt)) (eInt) (eInt)) (aN))))) (ssC (sSetR 4 nd rfl (by first | exact Or.inl rfl | exact Or.inr rfl) (eCal C_l_pick hr gd (by first | decide | omega) rfl (aC (eV 2) (aC (eLst (aC (eIx hu (eV 3) (eInt))
      (aC (eTupleRange2 rfl rfl T.b_tuple rfl T.b_range (eInt) (eOp oAdd (eInt) (eB bLen rfl T.b_len (by decide +kernel) (aC (eIx hu (eV 3) (eInt)) (aN)))))
      (aC (eTupleRange1 rfl rfl T.b_tuple rfl T.b_range (eB bLen rfl T.b_len (by decide +kernel) (aC (eIx hu (eV 3) (eInt)) (aN)))) (aN))))) (aN))))) (ssC (sSetR
      5 nd rfl (by first | exact Or.inl rfl | exact Or.inr rfl) (eCal C_l_called_by hr gd (by first | decide | omega) rfl (aC (eV 3) (aC (eT bTuple rfl T.b_tuple (by decide +kernel) (aC (eCal C_l_shuffled hr gd (by first | decide | omega) rfl
      (aC (eV 2) (aC (eV 4) (aN)))) (aN))) (aN))))) (ssC (sSetR 6 nd rfl (by first | exact Or.inl rfl | exact Or.inr rfl) (eLst (aC (eV 5) (aC (eCal C_l_changed hr gd (by first | decide | omega) rfl (aC (eV 2) (aC (eV 5)
      (aN)))) (aC (eCal C_l_web_drawn hr gd (by first | decide | omega) rfl (aC (eV 2) (aC (eB bLen rfl T.b_len (by decide +kernel) (aC (eIx hu (eV 3) (eInt)) (aN))) (aC (eInt) (aN)))))
      (aC (eV 3) (aN))))))) (ss1 (sFor PassesOwn.never rfl (iS (eOp oAdd (eComp (own := [("_law_thing", 10)]) rfl nd (iS (eV 6)) (blkOk_by (by kernel_rfl))
      (by decide) (fun _ _ _ _ _ => gN (i := 10) nd rfl (by first | exact Or.inl rfl | exact Or.inr rfl)) (fun _ _ _ _ _ => tsN) (fun _ _ _ _ _ => eTup (aC (eV 3) (aC (eV 10) (aN))))) (eComp (own :=
      [("_law_thing", 10)]) rfl nd (iS (eV 6)) (blkOk_by (by kernel_rfl)) (by decide) (fun _ _ _ _ _ => gN (i := 10) nd rfl (by first | exact Or.inl rfl | exact Or.inr rfl)) (fun _ _ _ _ _ => tsN) (fun
      _ _ _ _ _ => eTup (aC (eV 10) (aC (eV 3) (aN))))))) (gT rfl (gsC (gN (i := 7) nd rfl (by first | exact Or.inl rfl | exact Or.inr rfl)) (gsC (gN (i := 8) nd rfl (by first | exact Or.inl rfl | exact Or.inr rfl)) (gsN)))) (ssC (sSetR 9 nd
      rfl (by first | exact Or.inl rfl | exact Or.inr rfl) (eCal C_alike hr gd (by first | decide | omega) rfl (aC (eV 7) (aC (eV 8) (aN))))) (ssC (sIfR (bPw (wOr (bCmp (oNe hu) (eB (bRepr hu gd) rfl T.b_repr (by decide +kernel)
      (aC (eV 9) (aN))) (eB (bRepr hu gd) rfl T.b_repr (by decide +kernel) (aC (eCal C_l_due_names hr gd (by first | decide | omega) rfl (aC (eV 7) (aC (eV 8) (aN)))) (aN)))) (wOr1
      (bCmp (oNe hu) (eB (bRepr hu gd) rfl T.b_repr (by decide +kernel) (aC (eCal C_alike hr gd (by first | decide | omega) rfl (aC (eV 7) (aC (eV 8) (aN)))) (aN))) (eB (bRepr hu
      gd) rfl T.b_repr (by decide +kernel) (aC (eV 9) (aN))))))) (ss1 (sRet (eBl))) (ssN)) (ss1 (sIfR (bPw (wAnd (bCmp oNotN (eV 9) (eNon)) (wAnd1 (bCmp (oNe
      hu) (eCal C_l_called_by hr gd (by first | decide | omega) rfl (aC (eV 7) (aC (eV 9) (aN)))) (eV 8))))) (ss1 (sRet (eBl))) (ssN))))))))))))) (ss1 (sRet (eBl)))
end
end Z
set_option Elab.async false
set_option linter.all false
set_option maxRecDepth 100000
namespace Z
open PySem PySem.Spec PyProof.Rows L2 MV
theorem all_mk {l : PySem.W.OpenLaw} {w : World} {K : PySem.W.Frag} {h : Heap} {mg : Str → Option Value} {fa f_is_tied f_fits f_named_on f_alike f_l_hand_of f_l_take f_l_pick f_l_shuffled f_l_places_drawn f_l_web_drawn f_l_ring_ties f_l_web_of f_l_called_by f_l_changed f_l_tied f_l_least_names f_l_due_names f_law : Addr} (X : K.In h) (G : h.Ns mainGlobals mg) (hfa : mg "law" = some (.ref fa))
    {od_is_tied an_is_tied : Option Addr} {sl_is_tied : Array (Option Value)} {oc_is_tied kV_is_tied dc_is_tied pm_is_tied cd_is_tied ct_is_tied : Value}
    (a_is_tied : PySem.W.nsIn K mainGlobals "is_tied" = some (some (.ref f_is_tied))) (l_is_tied : K.lookup f_is_tied = some ⟨oc_is_tied, od_is_tied, .func (PySem.W.fnOf "is_tied" "is_tied" (defArgs s_is_tied) (defBody s_is_tied) (defScope s_is_tied) .none kV_is_tied dc_is_tied pm_is_tied an_is_tied cd_is_tied ct_is_tied), sl_is_tied⟩) (h_is_tied : PySem.W.codeIn K cd_is_tied "is_tied" = true) (k_is_tied : PySem.W.keepIn K (.ref f_is_tied) = true)
    {od_fits an_fits : Option Addr} {sl_fits : Array (Option Value)} {oc_fits kV_fits dc_fits pm_fits cd_fits ct_fits : Value}
    (a_fits : PySem.W.nsIn K mainGlobals "fits" = some (some (.ref f_fits))) (l_fits : K.lookup f_fits = some ⟨oc_fits, od_fits, .func (PySem.W.fnOf "fits" "fits" (defArgs s_fits) (defBody s_fits) (defScope s_fits) .none kV_fits dc_fits pm_fits an_fits cd_fits ct_fits), sl_fits⟩) (h_fits : PySem.W.codeIn K cd_fits "fits" = true) (k_fits : PySem.W.keepIn K (.ref f_fits) = true)
    {od_named_on an_named_on : Option Addr} {sl_named_on : Array (Option Value)} {oc_named_on kV_named_on dc_named_on pm_named_on cd_named_on ct_named_on : Value}
    (a_named_on : PySem.W.nsIn K mainGlobals "named_on" = some (some (.ref f_named_on))) (l_named_on : K.lookup f_named_on = some ⟨oc_named_on, od_named_on, .func (PySem.W.fnOf "named_on" "named_on" (defArgs s_named_on) (defBody s_named_on) (defScope s_named_on) .none kV_named_on dc_named_on pm_named_on an_named_on cd_named_on ct_named_on), sl_named_on⟩) (h_named_on : PySem.W.codeIn K cd_named_on "named_on" = true) (k_named_on : PySem.W.keepIn K (.ref f_named_on) = true)
    {od_alike an_alike : Option Addr} {sl_alike : Array (Option Value)} {oc_alike kV_alike dc_alike pm_alike cd_alike ct_alike : Value}
    (a_alike : PySem.W.nsIn K mainGlobals "alike" = some (some (.ref f_alike))) (l_alike : K.lookup f_alike = some ⟨oc_alike, od_alike, .func (PySem.W.fnOf "alike" "alike" (defArgs s_alike) (defBody s_alike) (defScope s_alike) .none kV_alike dc_alike pm_alike an_alike cd_alike ct_alike), sl_alike⟩) (h_alike : PySem.W.codeIn K cd_alike "alike" = true) (k_alike : PySem.W.keepIn K (.ref f_alike) = true)
    {od_l_hand_of an_l_hand_of : Option Addr} {sl_l_hand_of : Array (Option Value)} {oc_l_hand_of kV_l_hand_of dc_l_hand_of pm_l_hand_of cd_l_hand_of ct_l_hand_of : Value}
    (a_l_hand_of : PySem.W.nsIn K mainGlobals "_law_hand_of" = some (some (.ref f_l_hand_of))) (l_l_hand_of : K.lookup f_l_hand_of = some ⟨oc_l_hand_of, od_l_hand_of, .func (PySem.W.fnOf "_law_hand_of" "_law_hand_of" (defArgs s_l_hand_of) (defBody s_l_hand_of) (defScope s_l_hand_of) .none kV_l_hand_of dc_l_hand_of pm_l_hand_of an_l_hand_of cd_l_hand_of ct_l_hand_of), sl_l_hand_of⟩) (h_l_hand_of : PySem.W.codeIn K cd_l_hand_of "_law_hand_of" = true) (k_l_hand_of : PySem.W.keepIn K (.ref f_l_hand_of) = true)
    {od_l_take an_l_take : Option Addr} {sl_l_take : Array (Option Value)} {oc_l_take kV_l_take dc_l_take pm_l_take cd_l_take ct_l_take : Value}
    (a_l_take : PySem.W.nsIn K mainGlobals "_law_take" = some (some (.ref f_l_take))) (l_l_take : K.lookup f_l_take = some ⟨oc_l_take, od_l_take, .func (PySem.W.fnOf "_law_take" "_law_take" (defArgs s_l_take) (defBody s_l_take) (defScope s_l_take) .none kV_l_take dc_l_take pm_l_take an_l_take cd_l_take ct_l_take), sl_l_take⟩) (h_l_take : PySem.W.codeIn K cd_l_take "_law_take" = true) (k_l_take : PySem.W.keepIn K (.ref f_l_take) = true)
    {od_l_pick an_l_pick : Option Addr} {sl_l_pick : Array (Option Value)} {oc_l_pick kV_l_pick dc_l_pick pm_l_pick cd_l_pick ct_l_pick : Value}
    (a_l_pick : PySem.W.nsIn K mainGlobals "_law_pick" = some (some (.ref f_l_pick))) (l_l_pick : K.lookup f_l_pick = some ⟨oc_l_pick, od_l_pick, .func (PySem.W.fnOf "_law_pick" "_law_pick" (defArgs s_l_pick) (defBody s_l_pick) (defScope s_l_pick) .none kV_l_pick dc_l_pick pm_l_pick an_l_pick cd_l_pick ct_l_pick), sl_l_pick⟩) (h_l_pick : PySem.W.codeIn K cd_l_pick "_law_pick" = true) (k_l_pick : PySem.W.keepIn K (.ref f_l_pick) = true)
    {od_l_shuffled an_l_shuffled : Option Addr} {sl_l_shuffled : Array (Option Value)} {oc_l_shuffled kV_l_shuffled dc_l_shuffled pm_l_shuffled cd_l_shuffled ct_l_shuffled : Value}
    (a_l_shuffled : PySem.W.nsIn K mainGlobals "_law_shuffled" = some (some (.ref f_l_shuffled))) (l_l_shuffled : K.lookup f_l_shuffled = some ⟨oc_l_shuffled, od_l_shuffled, .func (PySem.W.fnOf "_law_shuffled" "_law_shuffled" (defArgs s_l_shuffled) (defBody s_l_shuffled) (defScope s_l_shuffled) .none kV_l_shuffled dc_l_shuffled pm_l_shuffled an_l_shuffled cd_l_shuffled ct_l_shuffled), sl_l_shuffled⟩) (h_l_shuffled : PySem.W.codeIn K cd_l_shuffled "_law_shuffled" = true) (k_l_shuffled : PySem.W.keepIn K (.ref f_l_shuffled) = true)
    {od_l_places_drawn an_l_places_drawn : Option Addr} {sl_l_places_drawn : Array (Option Value)} {oc_l_places_drawn kV_l_places_drawn dc_l_places_drawn pm_l_places_drawn cd_l_places_drawn ct_l_places_drawn : Value}
    (a_l_places_drawn : PySem.W.nsIn K mainGlobals "_law_places_drawn" = some (some (.ref f_l_places_drawn))) (l_l_places_drawn : K.lookup f_l_places_drawn = some ⟨oc_l_places_drawn, od_l_places_drawn, .func (PySem.W.fnOf "_law_places_drawn" "_law_places_drawn" (defArgs s_l_places_drawn) (defBody s_l_places_drawn) (defScope s_l_places_drawn) .none kV_l_places_drawn dc_l_places_drawn pm_l_places_drawn an_l_places_drawn cd_l_places_drawn ct_l_places_drawn), sl_l_places_drawn⟩) (h_l_places_drawn : PySem.W.codeIn K cd_l_places_drawn "_law_places_drawn" = true) (k_l_places_drawn : PySem.W.keepIn K (.ref f_l_places_drawn) = true)
    {od_l_web_drawn an_l_web_drawn : Option Addr} {sl_l_web_drawn : Array (Option Value)} {oc_l_web_drawn kV_l_web_drawn dc_l_web_drawn pm_l_web_drawn cd_l_web_drawn ct_l_web_drawn : Value}
    (a_l_web_drawn : PySem.W.nsIn K mainGlobals "_law_web_drawn" = some (some (.ref f_l_web_drawn))) (l_l_web_drawn : K.lookup f_l_web_drawn = some ⟨oc_l_web_drawn, od_l_web_drawn, .func (PySem.W.fnOf "_law_web_drawn" "_law_web_drawn" (defArgs s_l_web_drawn) (defBody s_l_web_drawn) (defScope s_l_web_drawn) .none kV_l_web_drawn dc_l_web_drawn pm_l_web_drawn an_l_web_drawn cd_l_web_drawn ct_l_web_drawn), sl_l_web_drawn⟩) (h_l_web_drawn : PySem.W.codeIn K cd_l_web_drawn "_law_web_drawn" = true) (k_l_web_drawn : PySem.W.keepIn K (.ref f_l_web_drawn) = true)
    {od_l_ring_ties an_l_ring_ties : Option Addr} {sl_l_ring_ties : Array (Option Value)} {oc_l_ring_ties kV_l_ring_ties dc_l_ring_ties pm_l_ring_ties cd_l_ring_ties ct_l_ring_ties : Value}
    (a_l_ring_ties : PySem.W.nsIn K mainGlobals "_law_ring_ties" = some (some (.ref f_l_ring_ties))) (l_l_ring_ties : K.lookup f_l_ring_ties = some ⟨oc_l_ring_ties, od_l_ring_ties, .func (PySem.W.fnOf "_law_ring_ties" "_law_ring_ties" (defArgs s_l_ring_ties) (defBody s_l_ring_ties) (defScope s_l_ring_ties) .none kV_l_ring_ties dc_l_ring_ties pm_l_ring_ties an_l_ring_ties cd_l_ring_ties ct_l_ring_ties), sl_l_ring_ties⟩) (h_l_ring_ties : PySem.W.codeIn K cd_l_ring_ties "_law_ring_ties" = true) (k_l_ring_ties : PySem.W.keepIn K (.ref f_l_ring_ties) = true)
    {od_l_web_of an_l_web_of : Option Addr} {sl_l_web_of : Array (Option Value)} {oc_l_web_of kV_l_web_of dc_l_web_of pm_l_web_of cd_l_web_of ct_l_web_of : Value}
    (a_l_web_of : PySem.W.nsIn K mainGlobals "_law_web_of" = some (some (.ref f_l_web_of))) (l_l_web_of : K.lookup f_l_web_of = some ⟨oc_l_web_of, od_l_web_of, .func (PySem.W.fnOf "_law_web_of" "_law_web_of" (defArgs s_l_web_of) (defBody s_l_web_of) (defScope s_l_web_of) .none kV_l_web_of dc_l_web_of pm_l_web_of an_l_web_of cd_l_web_of ct_l_web_of), sl_l_web_of⟩) (h_l_web_of : PySem.W.codeIn K cd_l_web_of "_law_web_of" = true) (k_l_web_of : PySem.W.keepIn K (.ref f_l_web_of) = true)
    {od_l_called_by an_l_called_by : Option Addr} {sl_l_called_by : Array (Option Value)} {oc_l_called_by kV_l_called_by dc_l_called_by pm_l_called_by cd_l_called_by ct_l_called_by : Value}
    (a_l_called_by : PySem.W.nsIn K mainGlobals "_law_called_by" = some (some (.ref f_l_called_by))) (l_l_called_by : K.lookup f_l_called_by = some ⟨oc_l_called_by, od_l_called_by, .func (PySem.W.fnOf "_law_called_by" "_law_called_by" (defArgs s_l_called_by) (defBody s_l_called_by) (defScope s_l_called_by) .none kV_l_called_by dc_l_called_by pm_l_called_by an_l_called_by cd_l_called_by ct_l_called_by), sl_l_called_by⟩) (h_l_called_by : PySem.W.codeIn K cd_l_called_by "_law_called_by" = true) (k_l_called_by : PySem.W.keepIn K (.ref f_l_called_by) = true)
    {od_l_changed an_l_changed : Option Addr} {sl_l_changed : Array (Option Value)} {oc_l_changed kV_l_changed dc_l_changed pm_l_changed cd_l_changed ct_l_changed : Value}
    (a_l_changed : PySem.W.nsIn K mainGlobals "_law_changed" = some (some (.ref f_l_changed))) (l_l_changed : K.lookup f_l_changed = some ⟨oc_l_changed, od_l_changed, .func (PySem.W.fnOf "_law_changed" "_law_changed" (defArgs s_l_changed) (defBody s_l_changed) (defScope s_l_changed) .none kV_l_changed dc_l_changed pm_l_changed an_l_changed cd_l_changed ct_l_changed), sl_l_changed⟩) (h_l_changed : PySem.W.codeIn K cd_l_changed "_law_changed" = true) (k_l_changed : PySem.W.keepIn K (.ref f_l_changed) = true)
    {od_l_tied an_l_tied : Option Addr} {sl_l_tied : Array (Option Value)} {oc_l_tied kV_l_tied dc_l_tied pm_l_tied cd_l_tied ct_l_tied : Value}
    (a_l_tied : PySem.W.nsIn K mainGlobals "_law_tied" = some (some (.ref f_l_tied))) (l_l_tied : K.lookup f_l_tied = some ⟨oc_l_tied, od_l_tied, .func (PySem.W.fnOf "_law_tied" "_law_tied" (defArgs s_l_tied) (defBody s_l_tied) (defScope s_l_tied) .none kV_l_tied dc_l_tied pm_l_tied an_l_tied cd_l_tied ct_l_tied), sl_l_tied⟩) (h_l_tied : PySem.W.codeIn K cd_l_tied "_law_tied" = true) (k_l_tied : PySem.W.keepIn K (.ref f_l_tied) = true)
    {od_l_least_names an_l_least_names : Option Addr} {sl_l_least_names : Array (Option Value)} {oc_l_least_names kV_l_least_names dc_l_least_names pm_l_least_names cd_l_least_names ct_l_least_names : Value}
    (a_l_least_names : PySem.W.nsIn K mainGlobals "_law_least_names" = some (some (.ref f_l_least_names))) (l_l_least_names : K.lookup f_l_least_names = some ⟨oc_l_least_names, od_l_least_names, .func (PySem.W.fnOf "_law_least_names" "_law_least_names" (defArgs s_l_least_names) (defBody s_l_least_names) (defScope s_l_least_names) .none kV_l_least_names dc_l_least_names pm_l_least_names an_l_least_names cd_l_least_names ct_l_least_names), sl_l_least_names⟩) (h_l_least_names : PySem.W.codeIn K cd_l_least_names "_law_least_names" = true) (k_l_least_names : PySem.W.keepIn K (.ref f_l_least_names) = true)
    {od_l_due_names an_l_due_names : Option Addr} {sl_l_due_names : Array (Option Value)} {oc_l_due_names kV_l_due_names dc_l_due_names pm_l_due_names cd_l_due_names ct_l_due_names : Value}
    (a_l_due_names : PySem.W.nsIn K mainGlobals "_law_due_names" = some (some (.ref f_l_due_names))) (l_l_due_names : K.lookup f_l_due_names = some ⟨oc_l_due_names, od_l_due_names, .func (PySem.W.fnOf "_law_due_names" "_law_due_names" (defArgs s_l_due_names) (defBody s_l_due_names) (defScope s_l_due_names) .none kV_l_due_names dc_l_due_names pm_l_due_names an_l_due_names cd_l_due_names ct_l_due_names), sl_l_due_names⟩) (h_l_due_names : PySem.W.codeIn K cd_l_due_names "_law_due_names" = true) (k_l_due_names : PySem.W.keepIn K (.ref f_l_due_names) = true)
    {od_law an_law : Option Addr} {sl_law : Array (Option Value)} {oc_law kV_law dc_law pm_law cd_law ct_law : Value}
    (a_law : PySem.W.nsIn K mainGlobals "law" = some (some (.ref f_law))) (l_law : K.lookup f_law = some ⟨oc_law, od_law, .func (PySem.W.fnOf "law" "law" (defArgs s_law) (defBody s_law) (defScope s_law) .none kV_law dc_law pm_law an_law cd_law ct_law), sl_law⟩) (h_law : PySem.W.codeIn K cd_law "law" = true) (k_law : PySem.W.keepIn K (.ref f_law) = true)
    (z_all : PySem.W.nsIn K mainGlobals "all" = some none)
    (z_dict : PySem.W.nsIn K mainGlobals "dict" = some none)
    (z_int : PySem.W.nsIn K mainGlobals "int" = some none)
    (z_len : PySem.W.nsIn K mainGlobals "len" = some none)
    (z_list : PySem.W.nsIn K mainGlobals "list" = some none)
    (z_max : PySem.W.nsIn K mainGlobals "max" = some none)
    (z_min : PySem.W.nsIn K mainGlobals "min" = some none)
    (z_range : PySem.W.nsIn K mainGlobals "range" = some none)
    (z_repr : PySem.W.nsIn K mainGlobals "repr" = some none)
    (z_sorted : PySem.W.nsIn K mainGlobals "sorted" = some none)
    (z_tuple : PySem.W.nsIn K mainGlobals "tuple" = some none)
    (z_zip : PySem.W.nsIn K mainGlobals "zip" = some none)
    : ∃ fd : FuncData, (∀ (s : Shared) (v : Value), BindsTo s fd ⟨[v], []⟩ [("_law_script", v)]) ∧ ∀ base : Heap, K.In base → base.Ns mainGlobals mg → FnG l.prog w K mg base 45 fa fd ["_law_script"] (spF K m_law) := by
  have e := hfa.symm.trans (PySem.W.mg_of X G a_law)
  cases e
  have T : Txt mg := ⟨PySem.W.mg_none_of X G z_all, PySem.W.mg_none_of X G z_dict, PySem.W.mg_none_of X G z_int, PySem.W.mg_none_of X G z_len, PySem.W.mg_none_of X G z_list, PySem.W.mg_none_of X G z_max, PySem.W.mg_none_of X G z_min, PySem.W.mg_none_of X G z_range, PySem.W.mg_none_of X G z_repr, PySem.W.mg_none_of X G z_sorted, PySem.W.mg_none_of X G z_tuple, PySem.W.mg_none_of X G z_zip⟩
  have F_is_tied := fun_mk (st := s_is_tied) l_is_tied h_is_tied k_is_tied
  have g_is_tied := PySem.W.mg_of X G a_is_tied
  have F_fits := fun_mk (st := s_fits) l_fits h_fits k_fits
  have g_fits := PySem.W.mg_of X G a_fits
  have F_named_on := fun_mk (st := s_named_on) l_named_on h_named_on k_named_on
  have g_named_on := PySem.W.mg_of X G a_named_on
  have F_alike := fun_mk (st := s_alike) l_alike h_alike k_alike
  have g_alike := PySem.W.mg_of X G a_alike
  have F_l_hand_of := fun_mk (st := s_l_hand_of) l_l_hand_of h_l_hand_of k_l_hand_of
  have g_l_hand_of := PySem.W.mg_of X G a_l_hand_of
  have F_l_take := fun_mk (st := s_l_take) l_l_take h_l_take k_l_take
  have g_l_take := PySem.W.mg_of X G a_l_take
  have F_l_pick := fun_mk (st := s_l_pick) l_l_pick h_l_pick k_l_pick
  have g_l_pick := PySem.W.mg_of X G a_l_pick
  have F_l_shuffled := fun_mk (st := s_l_shuffled) l_l_shuffled h_l_shuffled k_l_shuffled
  have g_l_shuffled := PySem.W.mg_of X G a_l_shuffled
  have F_l_places_drawn := fun_mk (st := s_l_places_drawn) l_l_places_drawn h_l_places_drawn k_l_places_drawn
  have g_l_places_drawn := PySem.W.mg_of X G a_l_places_drawn
  have F_l_web_drawn := fun_mk (st := s_l_web_drawn) l_l_web_drawn h_l_web_drawn k_l_web_drawn
  have g_l_web_drawn := PySem.W.mg_of X G a_l_web_drawn
  have F_l_ring_ties := fun_mk (st := s_l_ring_ties) l_l_ring_ties h_l_ring_ties k_l_ring_ties
  have g_l_ring_ties := PySem.W.mg_of X G a_l_ring_ties
  have F_l_web_of := fun_mk (st := s_l_web_of) l_l_web_of h_l_web_of k_l_web_of
  have g_l_web_of := PySem.W.mg_of X G a_l_web_of
  have F_l_called_by := fun_mk (st := s_l_called_by) l_l_called_by h_l_called_by k_l_called_by
  have g_l_called_by := PySem.W.mg_of X G a_l_called_by
  have F_l_changed := fun_mk (st := s_l_changed) l_l_changed h_l_changed k_l_changed
  have g_l_changed := PySem.W.mg_of X G a_l_changed
  have F_l_tied := fun_mk (st := s_l_tied) l_l_tied h_l_tied k_l_tied
  have g_l_tied := PySem.W.mg_of X G a_l_tied
  have F_l_least_names := fun_mk (st := s_l_least_names) l_l_least_names h_l_least_names k_l_least_names
  have g_l_least_names := PySem.W.mg_of X G a_l_least_names
  have F_l_due_names := fun_mk (st := s_l_due_names) l_l_due_names h_l_due_names k_l_due_names
  have g_l_due_names := PySem.W.mg_of X G a_l_due_names
  have F_law := fun_mk (st := s_law) l_law h_law k_law
  have g_law := PySem.W.mg_of X G a_law
  refine ⟨PySem.W.fnOf "law" "law" (defArgs s_law) (defBody s_law) (defScope s_law) .none kV_law dc_law pm_law an_law cd_law ct_law, fun s v => .of_eq rfl, fun base _ _ => ?_⟩
  have C_is_tied : Cal l.prog w K mg base 1 "is_tied" m_is_tied := c_is_tied T F_is_tied g_is_tied 
  have C_fits : Cal l.prog w K mg base 2 "fits" m_fits := c_fits T F_fits g_fits C_is_tied
  have C_named_on : ∀ n, Cal l.prog w K mg base (3 + n) "named_on" (m_named_on n) := c_named_on T F_named_on g_named_on C_fits
  have C_alike : Cal l.prog w K mg base 44 "alike" m_alike := c_alike T F_alike g_alike C_named_on
  have C_l_hand_of : Cal l.prog w K mg base 1 "_law_hand_of" m_l_hand_of := c_l_hand_of T F_l_hand_of g_l_hand_of 
  have C_l_take : Cal l.prog w K mg base 1 "_law_take" m_l_take := c_l_take T F_l_take g_l_take 
  have C_l_pick : Cal l.prog w K mg base 2 "_law_pick" m_l_pick := c_l_pick T F_l_pick g_l_pick C_l_take
  have C_l_shuffled : Cal l.prog w K mg base 2 "_law_shuffled" m_l_shuffled := c_l_shuffled T F_l_shuffled g_l_shuffled C_l_take
  have C_l_places_drawn : Cal l.prog w K mg base 3 "_law_places_drawn" m_l_places_drawn := c_l_places_drawn T F_l_places_drawn g_l_places_drawn C_l_pick
  have C_l_web_drawn : Cal l.prog w K mg base 4 "_law_web_drawn" m_l_web_drawn := c_l_web_drawn T F_l_web_drawn g_l_web_drawn C_l_take C_l_pick C_l_shuffled C_l_places_drawn
  have C_l_ring_ties : Cal l.prog w K mg base 1 "_law_ring_ties" m_l_ring_ties := c_l_ring_ties T F_l_ring_ties g_l_ring_ties 
  have C_l_web_of : Cal l.prog w K mg base 5 "_law_web_of" m_l_web_of := c_l_web_of T F_l_web_of g_l_web_of C_l_take C_l_pick C_l_web_drawn C_l_ring_ties
  have C_l_called_by : Cal l.prog w K mg base 1 "_law_called_by" m_l_called_by := c_l_called_by T F_l_called_by g_l_called_by 
  have C_l_changed : Cal l.prog w K mg base 3 "_law_changed" m_l_changed := c_l_changed T F_l_changed g_l_changed C_l_take C_l_pick
  have C_l_tied : Cal l.prog w K mg base 1 "_law_tied" m_l_tied := c_l_tied T F_l_tied g_l_tied 
  have C_l_least_names : ∀ n, Cal l.prog w K mg base (2 + n) "_law_least_names" (m_l_least_names n) := c_l_least_names T F_l_least_names g_l_least_names C_l_tied
  have C_l_due_names : Cal l.prog w K mg base 43 "_law_due_names" m_l_due_names := c_l_due_names T F_l_due_names g_l_due_names C_l_least_names
  exact o_law T F_law C_alike C_l_hand_of C_l_pick C_l_shuffled C_l_web_drawn C_l_web_of C_l_called_by C_l_changed C_l_due_names
end Z
open PySem PySem.W PyProof.Rows
set_option maxHeartbeats 0 in
theorem PySem.Challenge.cw_drawnweb_k12_alike_holds : PySem.Challenge.rw_drawnweb_k12_alike.Holds := by
  w_on; o_law; k_head; (case hw => w_witness2)
  k_fill
  refine MV.walkG (l := PySem.Challenge.rw_drawnweb_k12_alike) (n := 63) (k := 45) (x := "_law_script") (sp := fun w => MV.spF _ Z.m_law) rfl (by decide) rfl ⟨rfl, by decide, by decide⟩ (fun w h Y => PySem.W.kIn_of Y) ?F (fun _ H a ns hl hO hS => MV.law_sp (fun ns hl => Z.law_true ns hl) H a ns hl hO hS)
  case F =>
    intro w mg fa h KX G hmg
    refine' Z.all_mk KX G hmg ?a_is_tied ?l_is_tied ?h_is_tied ?k_is_tied ?a_fits ?l_fits ?h_fits ?k_fits ?a_named_on ?l_named_on ?h_named_on ?k_named_on ?a_alike ?l_alike ?h_alike ?k_alike ?a_l_hand_of ?l_l_hand_of ?h_l_hand_of ?k_l_hand_of ?a_l_take ?l_l_take ?h_l_take ?k_l_take ?a_l_pick ?l_l_pick ?h_l_pick ?k_l_pick ?a_l_shuffled ?l_l_shuffled ?h_l_shuffled ?k_l_shuffled ?a_l_places_drawn ?l_l_places_drawn ?h_l_places_drawn ?k_l_places_drawn ?a_l_web_drawn ?l_l_web_drawn ?h_l_web_drawn ?k_l_web_drawn ?a_l_ring_ties ?l_l_ring_ties ?h_l_ring_ties ?k_l_ring_ties ?a_l_web_of ?l_l_web_of ?h_l_web_of ?k_l_web_of ?a_l_called_by ?l_l_called_by ?h_l_called_by ?k_l_called_by ?a_l_changed ?l_l_changed ?h_l_changed ?k_l_changed ?a_l_tied ?l_l_tied ?h_l_tied ?k_l_tied ?a_l_least_names ?l_l_least_names ?h_l_least_names ?k_l_least_names ?a_l_due_names ?l_l_due_names ?h_l_due_names ?k_l_due_names ?a_law ?l_law ?h_law ?k_law ?z_all ?z_dict ?z_int ?z_len ?z_list ?z_max ?z_min ?z_range ?z_repr ?z_sorted ?z_tuple ?z_zip
    (case a_is_tied => k_is)
    (case l_is_tied => k_is)
    (case h_is_tied => k_is)
    (case k_is_tied => k_is)
    (case a_fits => k_is)
    (case l_fits => k_is)
    (case h_fits => k_is)
    (case k_fits => k_is)
    (case a_named_on => k_is)
    (case l_named_on => k_is)
    (case h_named_on => k_is)
    (case k_named_on => k_is)
    (case a_alike => k_is)
    (case l_alike => k_is)
    (case h_alike => k_is)
    (case k_alike => k_is)
    (case a_l_hand_of => k_is)
    (case l_l_hand_of => k_is)
    (case h_l_hand_of => k_is)
    (case k_l_hand_of => k_is)
    (case a_l_take => k_is)
    (case l_l_take => k_is)
    (case h_l_take => k_is)
    (case k_l_take => k_is)
    (case a_l_pick => k_is)
    (case l_l_pick => k_is)
    (case h_l_pick => k_is)
    (case k_l_pick => k_is)
    (case a_l_shuffled => k_is)
    (case l_l_shuffled => k_is)
    (case h_l_shuffled => k_is)
    (case k_l_shuffled => k_is)
    (case a_l_places_drawn => k_is)
    (case l_l_places_drawn => k_is)
    (case h_l_places_drawn => k_is)
    (case k_l_places_drawn => k_is)
    (case a_l_web_drawn => k_is)
    (case l_l_web_drawn => k_is)
    (case h_l_web_drawn => k_is)
    (case k_l_web_drawn => k_is)
    (case a_l_ring_ties => k_is)
    (case l_l_ring_ties => k_is)
    (case h_l_ring_ties => k_is)
    (case k_l_ring_ties => k_is)
    (case a_l_web_of => k_is)
    (case l_l_web_of => k_is)
    (case h_l_web_of => k_is)
    (case k_l_web_of => k_is)
    (case a_l_called_by => k_is)
    (case l_l_called_by => k_is)
    (case h_l_called_by => k_is)
    (case k_l_called_by => k_is)
    (case a_l_changed => k_is)
    (case l_l_changed => k_is)
    (case h_l_changed => k_is)
    (case k_l_changed => k_is)
    (case a_l_tied => k_is)
    (case l_l_tied => k_is)
    (case h_l_tied => k_is)
    (case k_l_tied => k_is)
    (case a_l_least_names => k_is)
    (case l_l_least_names => k_is)
    (case h_l_least_names => k_is)
    (case k_l_least_names => k_is)
    (case a_l_due_names => k_is)
    (case l_l_due_names => k_is)
    (case h_l_due_names => k_is)
    (case k_l_due_names => k_is)
    (case a_law => k_is)
    (case l_law => k_is)
    (case h_law => k_is)
    (case k_law => k_is)
    (case z_all => k_is)
    (case z_dict => k_is)
    (case z_int => k_is)
    (case z_len => k_is)
    (case z_list => k_is)
    (case z_max => k_is)
    (case z_min => k_is)
    (case z_range => k_is)
    (case z_repr => k_is)
    (case z_sorted => k_is)
    (case z_tuple => k_is)
    (case z_zip => k_is)
