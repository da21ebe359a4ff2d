import PyProof.Rows.All
import Wide.All
import OpenK.AllK
import Wide.FinOn
import HandS.ForMost
import KE.DataEq
import HandS.Walk
import HandS.Rev
import HandS.Wide
import HandS.IsInst
import HandS.TupAny
import HandS.RaiseMore
import HandS.More
import HandS.WordsDict
import HandS.Iter
import PyProof.Rows.SeqMore
import HandS.Comp
import HandS.Text
import KE.GoesEnum
import HandS.DeepEq
import HandS.ForDict
import HandS.Zip
import KE.KDictZip
import HandS.Zip0
import HandS.Set
import HandS.SetTxt0
import HandS.Strs
import PyProof.Rows.SortShellAny
import HandS.WideBits
import KE.KBits
import KE.BitLaws
import HandS.Style
import PySem.Challenge.RW_idlegraph_k63_sole_functions
set_option Elab.async false
set_option linter.all false
set_option maxRecDepth 100000
set_option maxHeartbeats 4000000
/-! VL1: data by value, what represents it in a heap, the relation between a store of data and the slots of a frame. -/
namespace VL
open PySem L2

/-- data -/
inductive D where
  | non | bl (b : Bool) | int (i : Int) | str (x : Str)
  | tup (xs : List D) | lst (xs : List D) | dic (kvs : List (Key × D))

/-! ### the outcome of a piece of code over a store -/
inductive R (α : Type) where
  | ok (a : α) (ρ : List D) | exc (c : Str) (p : D) (ρ : List D) | bad
def R.bind {α β : Type} (x : R α) (f : α → List D → R β) : R β := match x with
  | .ok a ρ => f a ρ
  | .exc c p ρ => .exc c p ρ
  | .bad => .bad
abbrev EM (α : Type) := List D → R α
inductive Fl where
  | nx | rt (d : D) | bk | ct
abbrev SM := EM Fl

/-! ### types -/
mutual
def D.imm : D → Bool
  | .tup ds => D.immL ds
  | .lst _ => false
  | .dic _ => false
  | .non => true
  | .bl _ => true
  | .int _ => true
  | .str _ => true
def D.immL : List D → Bool
  | [] => true
  | d :: ds => d.imm && D.immL ds
end
theorem immL_mem : ∀ {ds : List D} {d : D}, D.immL ds = true → d ∈ ds → d.imm = true
  | x :: r, d, h, hm => by
    unfold D.immL at h
    rw [Bool.and_eq_true] at h
    rcases List.mem_cons.mp hm with e | e
    · rw [e]; exact h.1
    · exact immL_mem h.2 e
theorem immL_of : ∀ {ds : List D}, (∀ d ∈ ds, d.imm = true) → D.immL ds = true
  | [], _ => rfl
  | x :: r, h => by
    unfold D.immL
    rw [h x List.mem_cons_self, immL_of fun d hd => h d (List.mem_cons_of_mem _ hd)]
    rfl
inductive Ty where
  | im | any | L (t : Ty) | M (t : Ty) | T (ts : List Ty)
mutual
def Ty.has : Ty → D → Prop
  | .im, d => d.imm = true
  | .any, _ => True
  | .L t, d => ∃ ds, d = .lst ds ∧ ∀ x ∈ ds, t.has x
  | .M t, d => ∃ kvs, d = .dic kvs ∧ ∀ x ∈ kvs, t.has x.2
  | .T ts, d => ∃ ds, d = .tup ds ∧ Ty.hasL ts ds
def Ty.hasL : List Ty → List D → Prop
  | [], ds => ds = []
  | t :: ts, ds => ∃ d r, ds = d :: r ∧ t.has d ∧ Ty.hasL ts r
end

/-! ### what represents data: the mutable parts at addresses outside of W -/
abbrev AS := Addr → Prop
/-- a tuple, a list of the written part -/
def KTup (K : PySem.W.Frag) (a : Addr) (xs : List V) : Prop :=
  ∃ (o : Obj) (its : Array Value) (n : Nat), K.lookup a = some o ∧ o.cls = .type "tuple" ∧ o.data = .seq its n ∧ its.size ≤ sizeLine ∧ Vals xs its.toList
def KLst (K : PySem.W.Frag) (a : Addr) (xs : List V) : Prop :=
  ∃ (o : Obj) (its : Array Value) (n : Nat), K.lookup a = some o ∧ o.cls = .type "list" ∧ o.dict = none ∧ o.data = .seq its n ∧ its.size ≤ sizeLine ∧ Vals xs its.toList
def TupAt (K : PySem.W.Frag) (H : Hp) (a : Addr) (xs : List V) : Prop := H a = some (.tup xs) ∨ KTup K a xs
def LstAt (K : PySem.W.Frag) (H : Hp) (W : AS) (a : Addr) (xs : List V) : Prop := (Rd H a (.lst xs) ∧ ¬ W a) ∨ KLst K a xs
theorem TupAt.sq {K : PySem.W.Frag} {H : Hp} {a : Addr} {xs : List V} (h : TupAt K H a xs) : SqT K H a xs := h.elim (fun h => .inl (.inl h)) .inr
theorem LstAt.sq {K : PySem.W.Frag} {H : Hp} {W : AS} {a : Addr} {xs : List V} (h : LstAt K H W a xs) : SqL K H a xs := h.elim (fun h => .inl h.1) .inr
mutual
def Fz (K : PySem.W.Frag) (H : Hp) (W : AS) : D → V → Prop
  | .non, v => v = .non
  | .bl b, v => v = .bl b
  | .int i, v => v = .int i
  | .str x, v => v = .str x
  | .tup ds, v => ∃ a xs, v = .ref a ∧ TupAt K H a xs ∧ FzL K H W ds xs
  | .lst ds, v => ∃ a xs, v = .ref a ∧ LstAt K H W a xs ∧ FzL K H W ds xs
  | .dic kvs, v => ∃ a ks, v = .ref a ∧ Rd H a (.dK ks) ∧ ¬ W a ∧ FzM K H W kvs ks
def FzL (K : PySem.W.Frag) (H : Hp) (W : AS) : List D → List V → Prop
  | [], vs => vs = []
  | d :: ds, vs => ∃ v r, vs = v :: r ∧ Fz K H W d v ∧ FzL K H W ds r
def FzM (K : PySem.W.Frag) (H : Hp) (W : AS) : List (Key × D) → List (Key × V) → Prop
  | [], vs => vs = []
  | (k, d) :: ds, vs => ∃ v r, vs = (k, v) :: r ∧ Fz K H W d v ∧ FzM K H W ds r
end
/-- from H to H' only what is in W was changed -/
structure Ext (H : Hp) (W : AS) (H' : Hp) : Prop where
  keep : ∀ a o, H a = some o → ¬ W a → H' a = some o
  tup : ∀ a xs, H a = some (.tup xs) → H' a = some (.tup xs)
  there : ∀ a, H a ≠ none → H' a ≠ none
section
variable {K : PySem.W.Frag} {H H' H'' : Hp} {W W' : AS} {d : D} {v : V}
theorem Ext.refl : Ext H W H := ⟨fun _ _ h _ => h, fun _ _ h => h, fun _ h => h⟩
theorem Ext.trans (a : Ext H W H') (b : Ext H' W H'') : Ext H W H'' := ⟨fun x o h n => b.keep x o (a.keep x o h n) n, fun x xs h => b.tup x xs (a.tup x xs h), fun x h => b.there x (a.there x h)⟩
theorem Ext.mono (a : Ext H W H') (h : ∀ x, W x → W' x) : Ext H W' H' := ⟨fun x o e n => a.keep x o e fun z => n (h x z), a.tup, a.there⟩
theorem Ext.new {p : Addr} {o : HO} (h : H p = none) : Ext H W (upd H p o) := by
  have ne : ∀ a, H a ≠ none → a ≠ p := fun a e z => e (by rw [z]; exact h)
  refine ⟨fun a u e _ => ?_, fun a xs e => ?_, fun a e => ?_⟩
  · rw [upd_ne (ne a (by rw [e]; simp))]; exact e
  · rw [upd_ne (ne a (by rw [e]; simp))]; exact e
  · rw [upd_ne (ne a e)]; exact e
theorem Ext.same (h : Same H H') : Ext H W H' := ⟨fun a o e _ => h a o e, fun a xs e => h a _ e, fun a e z => by
  cases q : H a with
  | none => exact e q
  | some o => rw [h a o q] at z; cases z⟩
/-- a writable object that is no tuple is changed -/
theorem Ext.upd {p : Addr} {o o' : HO} (h : H p = some o) (hn : ∀ xs, o ≠ .tup xs) (w : W p) : Ext H W (upd H p o') := by
  refine ⟨fun a u e n => ?_, fun a xs e => ?_, fun a e => ?_⟩
  · rw [upd_ne (fun z => n (by rw [z]; exact w))]; exact e
  · rw [upd_ne (fun z => by rw [z, h] at e; exact hn xs (Option.some.inj e))]; exact e
  · by_cases z : a = p
    · rw [z, upd_same]; simp
    · rw [upd_ne z]; exact e
theorem Ext.fresh {p : Addr} (e : Ext H W H') (h : H' p = none) : H p = none := by
  cases q : H p with
  | none => rfl
  | some o => exact absurd h (e.there p (by rw [q]; simp))
theorem TupAt.ext {a : Addr} {xs : List V} (h : TupAt K H a xs) (e : Ext H W H') : TupAt K H' a xs := h.imp (fun h => e.tup a xs h) id
theorem rd_ext {a : Addr} {u : HO} (h : Rd H a u) (n : ¬ W a) (e : Ext H W H') : Rd H' a u := by
  rcases h with h | ⟨o, h⟩
  · exact .inl (e.keep a _ h n)
  · exact .inr ⟨o, e.keep a _ h n⟩
theorem LstAt.ext {a : Addr} {xs : List V} {W2 : AS} (h : LstAt K H W2 a xs) (hw : ∀ x, W x → W2 x) (e : Ext H W H') : LstAt K H' W2 a xs := h.imp (fun h => ⟨rd_ext h.1 (fun z => h.2 (hw a z)) e, h.2⟩) id
mutual
theorem Fz.ext {W2 : AS} (hw : ∀ x, W x → W2 x) (e : Ext H W H') : ∀ {d : D} {v : V}, Fz K H W2 d v → Fz K H' W2 d v
  | .non, _, h => h
  | .bl _, _, h => h
  | .int _, _, h => h
  | .str _, _, h => h
  | .tup _, _, ⟨a, xs, h1, h2, h3⟩ => ⟨a, xs, h1, h2.ext e, FzL.ext hw e h3⟩
  | .lst _, _, ⟨a, xs, h1, h2, h3⟩ => ⟨a, xs, h1, h2.ext hw e, FzL.ext hw e h3⟩
  | .dic _, _, ⟨a, xs, h1, h2, h3, h4⟩ => ⟨a, xs, h1, rd_ext h2 (fun z => h3 (hw a z)) e, h3, FzM.ext hw e h4⟩
theorem FzL.ext {W2 : AS} (hw : ∀ x, W x → W2 x) (e : Ext H W H') : ∀ {ds : List D} {vs : List V}, FzL K H W2 ds vs → FzL K H' W2 ds vs
  | [], _, h => h
  | _ :: _, _, ⟨v, r, h1, h2, h3⟩ => ⟨v, r, h1, Fz.ext hw e h2, FzL.ext hw e h3⟩
theorem FzM.ext {W2 : AS} (hw : ∀ x, W x → W2 x) (e : Ext H W H') : ∀ {ds : List (Key × D)} {vs : List (Key × V)}, FzM K H W2 ds vs → FzM K H' W2 ds vs
  | [], _, h => h
  | (_, _) :: _, _, ⟨v, r, h1, h2, h3⟩ => ⟨v, r, h1, Fz.ext hw e h2, FzM.ext hw e h3⟩
end
theorem rd_nn {a : Addr} {u : HO} (h : Rd H a u) : H a ≠ none := by
  rcases h with h | ⟨o, h⟩ <;> rw [h] <;> simp
/-- another writable part: where a part of the new one is tracked in H, it is in the old one -/
theorem LstAt.mono {a : Addr} {xs : List V} (h : LstAt K H W a xs) (hw : ∀ x, W' x → W x ∨ H x = none) : LstAt K H W' a xs := h.imp (fun h => ⟨h.1, fun z => (hw a z).elim h.2 fun q => rd_nn h.1 q⟩) id
mutual
theorem Fz.mono (hw : ∀ x, W' x → W x ∨ H x = none) : ∀ {d : D} {v : V}, Fz K H W d v → Fz K H W' d v
  | .non, _, h => h
  | .bl _, _, h => h
  | .int _, _, h => h
  | .str _, _, h => h
  | .tup _, _, ⟨a, xs, h1, h2, h3⟩ => ⟨a, xs, h1, h2, FzL.mono hw h3⟩
  | .lst _, _, ⟨a, xs, h1, h2, h3⟩ => ⟨a, xs, h1, h2.mono hw, FzL.mono hw h3⟩
  | .dic _, _, ⟨a, xs, h1, h2, h3, h4⟩ => ⟨a, xs, h1, h2, fun z => (hw a z).elim h3 fun q => rd_nn h2 q, FzM.mono hw h4⟩
theorem FzL.mono (hw : ∀ x, W' x → W x ∨ H x = none) : ∀ {ds : List D} {vs : List V}, FzL K H W ds vs → FzL K H W' ds vs
  | [], _, h => h
  | _ :: _, _, ⟨v, r, h1, h2, h3⟩ => ⟨v, r, h1, Fz.mono hw h2, FzL.mono hw h3⟩
theorem FzM.mono (hw : ∀ x, W' x → W x ∨ H x = none) : ∀ {ds : List (Key × D)} {vs : List (Key × V)}, FzM K H W ds vs → FzM K H W' ds vs
  | [], _, h => h
  | (_, _) :: _, _, ⟨v, r, h1, h2, h3⟩ => ⟨v, r, h1, Fz.mono hw h2, FzM.mono hw h3⟩
end
mutual
/-- immutable data: whatever is written -/
theorem Fz.immW : ∀ {d : D} {v : V}, d.imm = true → Fz K H W d v → Fz K H W' d v
  | .non, _, _, h => h
  | .bl _, _, _, h => h
  | .int _, _, _, h => h
  | .str _, _, _, h => h
  | .tup _, _, q, ⟨a, xs, h1, h2, h3⟩ => ⟨a, xs, h1, h2, FzL.immW q h3⟩
  | .lst _, _, q, _ => by cases q
  | .dic _, _, q, _ => by cases q
theorem FzL.immW : ∀ {ds : List D} {vs : List V}, D.immL ds = true → FzL K H W ds vs → FzL K H W' ds vs
  | [], _, _, h => h
  | d :: ds, _, q, ⟨v, r, h1, h2, h3⟩ => by
    unfold D.immL at q
    rw [Bool.and_eq_true] at q
    exact ⟨v, r, h1, Fz.immW q.1 h2, FzL.immW q.2 h3⟩
end
theorem FzL.length : ∀ {ds : List D} {vs : List V}, FzL K H W ds vs → ds.length = vs.length
  | [], _, h => by rw [show _ = [] from h]; rfl
  | _ :: _, _, ⟨v, r, h1, h2, h3⟩ => by rw [h1, List.length_cons, List.length_cons, h3.length]
theorem FzL.get : ∀ {ds : List D} {vs : List V} {i : Nat} {d : D}, FzL K H W ds vs → ds[i]? = some d → ∃ v, vs[i]? = some v ∧ Fz K H W d v
  | x :: _, _, 0, d, ⟨v, r, h1, h2, h3⟩, e => by
    have e' : x = d := by simpa using e
    subst e'
    exact ⟨v, by rw [h1]; rfl, h2⟩
  | _ :: ds, _, i + 1, d, ⟨v, r, h1, h2, h3⟩, e => by
    obtain ⟨u, hu, q⟩ := h3.get (i := i) (d := d) (by simpa using e)
    exact ⟨u, by rw [h1]; simpa using hu, q⟩
theorem FzL.getV : ∀ {ds : List D} {vs : List V} {i : Nat} {v : V}, FzL K H W ds vs → vs[i]? = some v → ∃ d, ds[i]? = some d ∧ Fz K H W d v
  | [], vs, i, v, h, e => by
    rw [show vs = [] from h] at e
    simp at e
  | x :: _, _, 0, v, ⟨u, r, h1, h2, h3⟩, e => by
    rw [h1] at e
    have e' : u = v := by simpa using e
    subst e'
    exact ⟨x, rfl, h2⟩
  | _ :: ds, _, i + 1, v, ⟨u, r, h1, h2, h3⟩, e => by
    rw [h1] at e
    obtain ⟨d, hd, q⟩ := h3.getV (i := i) (v := v) (by simpa using e)
    exact ⟨d, by simpa using hd, q⟩
theorem FzL.append : ∀ {ds es : List D} {vs ws : List V}, FzL K H W ds vs → FzL K H W es ws → FzL K H W (ds ++ es) (vs ++ ws)
  | [], _, _, _, h, q => by rw [show _ = [] from h]; exact q
  | _ :: _, _, _, _, ⟨v, r, h1, h2, h3⟩, q => ⟨v, r ++ _, by rw [h1]; rfl, h2, h3.append q⟩
theorem FzL.of_all : ∀ {ds : List D} {vs : List V}, ds.length = vs.length → (∀ (i : Nat) (d : D) (v : V), ds[i]? = some d → vs[i]? = some v → Fz K H W d v) → FzL K H W ds vs
  | [], [], _, _ => rfl
  | d :: ds, v :: vs, hl, h => ⟨v, vs, rfl, h 0 d v rfl rfl, FzL.of_all (by simpa using hl) fun i x y h1 h2 => h (i + 1) x y (by simpa using h1) (by simpa using h2)⟩
  | [], _ :: _, hl, _ => by simp at hl
  | _ :: _, [], hl, _ => by simp at hl
theorem FzL.one (h : Fz K H W d v) : FzL K H W [d] [v] := ⟨v, [], rfl, h, rfl⟩
theorem FzL.set {ds : List D} {vs : List V} (h : FzL K H W ds vs) (i : Nat) (q : Fz K H W d v) : FzL K H W (ds.set i d) (vs.set i v) := by
  refine FzL.of_all (by rw [List.length_set, List.length_set, h.length]) fun j x y hx hy => ?_
  by_cases e : i = j
  · subst e
    have l1 : i < ds.length := by
      have := (List.getElem?_eq_some_iff.mp hx).1
      rwa [List.length_set] at this
    rw [List.getElem?_set_self l1] at hx
    rw [List.getElem?_set_self (by rw [← h.length]; exact l1)] at hy
    cases hx; cases hy
    exact q
  · rw [List.getElem?_set_ne e] at hx hy
    obtain ⟨u, hu, r⟩ := h.get hx
    rw [hu] at hy; cases hy
    exact r
theorem FzL.sub {ds es : List D} {vs ws : List V} (h : FzL K H W ds vs) (f : Nat → Nat) (h1 : ∀ i, es[i]? = if i < es.length then ds[f i]? else none) (h2 : ∀ i, ws[i]? = if i < es.length then vs[f i]? else none) (hl : es.length = ws.length) : FzL K H W es ws :=
  FzL.of_all hl fun i d v e1 e2 => by
    have li : i < es.length := (List.getElem?_eq_some_iff.mp e1).1
    rw [h1 i, if_pos li] at e1
    rw [h2 i, if_pos li] at e2
    obtain ⟨u, hu, r⟩ := h.get e1
    rw [hu] at e2; cases e2
    exact r
theorem FzL.drop : ∀ {ds : List D} {vs : List V} (n : Nat), FzL K H W ds vs → FzL K H W (ds.drop n) (vs.drop n)
  | ds, vs, 0, h => by simpa using h
  | [], vs, n + 1, h => by rw [show vs = [] from h]; simp [FzL]
  | _ :: ds, _, n + 1, ⟨v, r, h1, h2, h3⟩ => by rw [h1]; exact h3.drop n
theorem FzL.take : ∀ {ds : List D} {vs : List V} (n : Nat), FzL K H W ds vs → FzL K H W (ds.take n) (vs.take n)
  | ds, vs, 0, _ => by simp [FzL]
  | [], vs, n + 1, h => by rw [show vs = [] from h]; simp [FzL]
  | d :: ds, _, n + 1, ⟨v, r, h1, h2, h3⟩ => by rw [h1]; exact ⟨v, r.take n, rfl, h2, h3.take n⟩
theorem FzL.rev {ds : List D} {vs : List V} (h : FzL K H W ds vs) : FzL K H W ds.reverse vs.reverse := by
  induction ds generalizing vs with
  | nil => rw [show vs = [] from h]; rfl
  | cons d ds ih =>
    obtain ⟨v, r, h1, h2, h3⟩ := h
    rw [h1, List.reverse_cons, List.reverse_cons]
    exact (ih h3).append (FzL.one h2)
theorem FzL.eraseIdx : ∀ {ds : List D} {vs : List V} (n : Nat), FzL K H W ds vs → FzL K H W (ds.eraseIdx n) (vs.eraseIdx n)
  | [], vs, _, h => by rw [show vs = [] from h]; simp [FzL]
  | _ :: ds, _, 0, ⟨v, r, h1, h2, h3⟩ => by rw [h1]; exact h3
  | d :: ds, _, n + 1, ⟨v, r, h1, h2, h3⟩ => by rw [h1]; exact ⟨v, r.eraseIdx n, rfl, h2, h3.eraseIdx n⟩
end

/-! ### slots -/
inductive Slot where
  | un | fz (t : Ty) | own (t : Ty)
abbrev Gx := List Slot
/-- the addresses of the owned slots -/
def Wr (Γ : Gx) (σ : St) : AS := fun a => ∃ (i : Nat) (t : Ty), Γ[i]? = some (.own t) ∧ σ[i]? = some (some (.ref a))
def Wa (Γ : Gx) (σ : St) (U : AS) : AS := fun a => Wr Γ σ a ∨ U a
/-- a list or a dict that may be written: its own address, its parts frozen -/
def Own (K : PySem.W.Frag) (H : Hp) (W : AS) (d : D) (a : Addr) : Prop :=
  (∃ ds xs, d = .lst ds ∧ H a = some (.lst xs) ∧ FzL K H W ds xs) ∨ ∃ kvs ks, d = .dic kvs ∧ H a = some (.dK ks) ∧ FzM K H W kvs ks
structure Rel (K : PySem.W.Frag) (Γ : Gx) (U : AS) (ρ : List D) (σ : St) (H : Hp) : Prop where
  len : ρ.length = σ.length
  glen : Γ.length = σ.length
  fz : ∀ (i : Nat) (t : Ty), Γ[i]? = some (.fz t) → ∃ d v, ρ[i]? = some d ∧ σ[i]? = some (some v) ∧ Fz K H (Wa Γ σ U) d v ∧ t.has d
  own : ∀ (i : Nat) (t : Ty), Γ[i]? = some (.own t) → ∃ d a, ρ[i]? = some d ∧ σ[i]? = some (some (.ref a)) ∧ Own K H (Wa Γ σ U) d a ∧ t.has d ∧ ¬ U a
  inj : ∀ (i j : Nat) (t u : Ty) (a : Addr), Γ[i]? = some (.own t) → Γ[j]? = some (.own u) → σ[i]? = some (some (.ref a)) → σ[j]? = some (some (.ref a)) → i = j
  trk : ∀ a, U a → H a ≠ none
section
variable {K : PySem.W.Frag} {H H' : Hp} {U U' W W' : AS} {Γ Γ' : Gx} {ρ ρ' : List D} {σ σ' : St} {d : D} {a : Addr}
theorem Own.there (h : Own K H W d a) : H a ≠ none := by
  rcases h with ⟨_, _, _, h, _⟩ | ⟨_, _, _, h, _⟩ <;> rw [h] <;> simp
theorem Own.ext (h : Own K H W d a) {W2 : AS} (hw : ∀ x, W2 x → W x) (n : ¬ W2 a) (e : Ext H W2 H') : Own K H' W d a := by
  rcases h with ⟨ds, xs, h1, h2, h3⟩ | ⟨ds, xs, h1, h2, h3⟩
  · exact .inl ⟨ds, xs, h1, e.keep a _ h2 n, FzL.ext hw e h3⟩
  · exact .inr ⟨ds, xs, h1, e.keep a _ h2 n, FzM.ext hw e h3⟩
theorem Own.mono (h : Own K H W d a) (hw : ∀ x, W' x → W x ∨ H x = none) : Own K H W' d a := by
  rcases h with ⟨ds, xs, h1, h2, h3⟩ | ⟨ds, xs, h1, h2, h3⟩
  · exact .inl ⟨ds, xs, h1, h2, FzL.mono hw h3⟩
  · exact .inr ⟨ds, xs, h1, h2, FzM.mono hw h3⟩
/-- given up: nobody writes it any more -/
theorem Own.fz (h : Own K H W d a) (n : ¬ W' a) (hw : ∀ x, W' x → W x ∨ H x = none) : Fz K H W' d (.ref a) := by
  rcases h with ⟨ds, xs, h1, h2, h3⟩ | ⟨ds, xs, h1, h2, h3⟩
  · rw [h1]; exact ⟨a, xs, rfl, .inl ⟨.inl h2, n⟩, FzL.mono hw h3⟩
  · rw [h1]; exact ⟨a, xs, rfl, .inl h2, n, FzM.mono hw h3⟩
theorem Rel.wr (R : Rel K Γ U ρ σ H) (h : Wr Γ σ a) : H a ≠ none ∧ ¬ U a := by
  obtain ⟨i, t, h1, h2⟩ := h
  obtain ⟨d, b, _, e, o, _, n⟩ := R.own i t h1
  rw [h2] at e
  cases e
  exact ⟨o.there, n⟩
theorem Rel.wa (R : Rel K Γ U ρ σ H) (h : Wa Γ σ U a) : H a ≠ none := h.elim (fun h => (R.wr h).1) (R.trk a)
/-- nothing that is tracked was changed -/
theorem Rel.same (R : Rel K Γ U ρ σ H) (e : Ext H (fun _ => False) H') : Rel K Γ U ρ σ H' where
  len := R.len
  glen := R.glen
  fz := fun i t h => let ⟨d, v, h1, h2, h3, h4⟩ := R.fz i t h; ⟨d, v, h1, h2, Fz.ext (fun _ z => z.elim) e h3, h4⟩
  own := fun i t h => let ⟨d, v, h1, h2, h3, h4⟩ := R.own i t h; ⟨d, v, h1, h2, h3.ext (fun _ z => z.elim) id e, h4⟩
  inj := R.inj
  trk := fun a h => e.there a (R.trk a h)
end
end VL
/-! VL2: readings by a store; expressions. -/
namespace VL
open PySem L2

theorem PE.imp {X : Cx} {e : Expr} {t t' : TE} (h : PE X e t) (w : ∀ σ H Q, t' σ H Q → t σ H Q) : PE X e t' := ⟨fun pins s σ H Q I q => h.run pins s σ H Q I (w σ H Q q)⟩
theorem PT.imp {X : Cx} {e : Expr} {t t' : TT} (h : PT X e t) (w : ∀ σ H Q, t' σ H Q → t σ H Q) : PT X e t' := ⟨fun pins s σ H Q I q => h.run pins s σ H Q I (w σ H Q q)⟩
theorem PW.imp {X : Cx} {e : Expr} {t t' : TT} (h : PW X e t) (w : ∀ σ H Q, t' σ H Q → t σ H Q) : PW X e t' := ⟨fun wh pins s σ H Q I q => h.run wh pins s σ H Q I (w σ H Q q)⟩
theorem PA.imp {X : Cx} {e : List Expr} {t t' : TA} (h : PA X e t) (w : ∀ σ H Q, t' σ H Q → t σ H Q) : PA X e t' := ⟨fun pos pins s σ H Q I q => h.run pos pins s σ H Q I (w σ H Q q)⟩

/-- what is handed back: frozen, or new and the caller's own -/
inductive RK where
  | fz (t : Ty) | nw (t : Ty) | no (t : Ty)
/-- what is fixed through a def's body: the written part, what an exception is, what is wanted of one, the slots that are wanted then -/
structure Zx where
  K : PySem.W.Frag
  XR : Str → D → Value → Option Addr → Hp → Prop
  E : Value → Option Addr → L2.St → Hp → Prop
  ΓX : Gx
  Γr : Gx
  rk : RK

def UN (U : AS) (p : Addr) : AS := fun a => U a ∨ a = p

section
variable {K : PySem.W.Frag} {H H' : Hp} {U U' W W' : AS} {Γ Γ' : Gx} {ρ ρ' : List D} {σ σ' : L2.St} {d : D} {a p : Addr} {o : HO}
theorem wa_sub (h : ∀ x, U' x → U x) : ∀ x, Wa Γ σ U' x → Wa Γ σ U x := fun x z => z.imp id (h x)
theorem Rel.lessU (R : Rel K Γ U ρ σ H) (h : ∀ x, U' x → U x) : Rel K Γ U' ρ σ H where
  len := R.len
  glen := R.glen
  fz := fun i t e => let ⟨d, v, h1, h2, h3, h4⟩ := R.fz i t e; ⟨d, v, h1, h2, Fz.mono (fun x z => .inl (wa_sub h x z)) h3, h4⟩
  own := fun i t e => let ⟨d, v, h1, h2, h3, h4, h5⟩ := R.own i t e; ⟨d, v, h1, h2, h3.mono (fun x z => .inl (wa_sub h x z)), h4, fun z => h5 (h _ z)⟩
  inj := R.inj
  trk := fun a z => R.trk a (h a z)
/-- more is kept by others: what is new -/
theorem Rel.moreU (R : Rel K Γ U ρ σ H) (h : ∀ x, U' x → U x ∨ H x = none) (e : Ext H (fun _ => False) H') (t : ∀ x, U' x → H' x ≠ none) : Rel K Γ U' ρ σ H' where
  len := R.len
  glen := R.glen
  fz := fun i t e' => let ⟨d, v, h1, h2, h3, h4⟩ := R.fz i t e'; ⟨d, v, h1, h2, Fz.ext (fun _ z => z.elim) e (Fz.mono (fun x z => z.elim (fun z => .inl (.inl z)) fun z => (h x z).imp (fun z => .inr z) id) h3), h4⟩
  own := fun i t e' => let ⟨d, v, h1, h2, h3, h4, h5⟩ := R.own i t e'; ⟨d, v, h1, h2, (h3.mono (fun x z => z.elim (fun z => .inl (.inl z)) fun z => (h x z).imp (fun z => .inr z) id)).ext (fun _ z => z.elim) id e, h4, fun z => (h _ z).elim h5 fun q => h3.there q⟩
  inj := R.inj
  trk := t
theorem Rel.new (R : Rel K Γ U ρ σ H) (hp : H p = none) : Rel K Γ (UN U p) ρ σ (upd H p o) :=
  R.moreU (fun x z => z.imp id fun z => by rw [z]; exact hp) (Ext.new hp) fun x z => z.elim (fun z q => R.trk x z ((Ext.new (W := fun _ => False) (o := o) hp).fresh q)) fun z => by rw [z, upd_same]; simp
theorem Rel.wrU (R : Rel K Γ U ρ σ H) (h : Wr Γ σ a) : ¬ U a := (R.wr h).2
end

/-! ### readings -/
/-- behind a piece of code -/
def Aft {α β : Type} (Z : Zx) (Γ : Gx) (P : α → β → L2.St → Hp → AS → Prop) (σ : L2.St) (H : Hp) (U : AS) (Q : β → Hp → Prop) : R α → Prop
  | .ok x ρ' => ∀ y H', Ext H (Wr Γ σ) H' → Rel Z.K Γ U ρ' σ H' → P x y σ H' (Wa Γ σ U) → Q y H'
  | .exc c p ρ' => ∀ cls od H', Ext H (Wr Γ σ) H' → Rel Z.K Z.ΓX U ρ' σ H' → Z.XR c p cls od H' → Z.E cls od σ H'
  | .bad => False
def Tof {α β : Type} (Z : Zx) (Γ : Gx) (φ : EM α) (P : α → β → L2.St → Hp → AS → Prop) : L2.St → Hp → (β → Hp → Prop) → Prop := fun σ H Q => ∃ ρ U, Rel Z.K Γ U ρ σ H ∧ Aft Z Γ P σ H U Q (φ ρ)
theorem Aft.later {α β : Type} {Z : Zx} {Γ : Gx} {P : α → β → L2.St → Hp → AS → Prop} {σ : L2.St} {H H1 : Hp} {U : AS} {Q : β → Hp → Prop} {r : R α} (q : Aft Z Γ P σ H U Q r) (e : Ext H (Wr Γ σ) H1) : Aft Z Γ P σ H1 U Q r := by
  cases r with
  | ok x ρ' => exact fun y H' e' => q y H' (e.trans e')
  | exc c p ρ' => exact fun cls od H' e' => q cls od H' (e.trans e')
  | bad => exact q
/-- one piece ahead of the rest -/
theorem Aft.bind {α β γ δ : Type} {Z : Zx} {Γ : Gx} {P : α → β → L2.St → Hp → AS → Prop} {P' : γ → δ → L2.St → Hp → AS → Prop} {σ : L2.St} {H : Hp} {U : AS} {Q : β → Hp → Prop} {Q' : δ → Hp → Prop} {x : R γ} {f : γ → List D → R α}
    (q : Aft Z Γ P σ H U Q (x.bind f)) (k : ∀ a ρ1 y H1, Ext H (Wr Γ σ) H1 → Rel Z.K Γ U ρ1 σ H1 → P' a y σ H1 (Wa Γ σ U) → Aft Z Γ P σ H1 U Q (f a ρ1) → Q' y H1) : Aft Z Γ P' σ H U Q' x := by
  cases x with
  | ok a ρ' => exact fun y H' e' R' p' => k a ρ' y H' e' R' p' (Aft.later q e')
  | exc c p ρ' => exact q
  | bad => exact q
abbrev PF := D → V → L2.St → Hp → AS → Prop
/-- frozen, of a type -/
def Pf (K : PySem.W.Frag) (t : Ty) : PF := fun d v _ H W => Fz K H W d v ∧ t.has d
/-- a slot's own, to be read behind -/
def Ps (i : Nat) : PF := fun _ v σ _ _ => σ[i]? = some (some v)
inductive Od where
  | v (t : Ty) | s (i : Nat)
def Od.P (K : PySem.W.Frag) : Od → PF
  | .v t => Pf K t
  | .s i => Ps i
def Od.res : Od → D → List D → D
  | .v _, d, _ => d
  | .s i, _, ρ => ρ.getD i .non
def Od.ok (Γ : Gx) : Od → Ty → Prop
  | .v t, u => t = u
  | .s i, u => Γ[i]? = some (.own u)
/-- may be read: frozen, or a slot's own -/
def Vw (K : PySem.W.Frag) (H : Hp) (W : AS) (d : D) (v : V) : Prop := Fz K H W d v ∨ ∃ a, v = .ref a ∧ Own K H W d a
abbrev SE (X : Cx) (Z : Zx) (Γ : Gx) (e : Expr) (φ : EM D) (t : Ty) : Prop := PE X e (Tof Z Γ φ (Pf Z.K t))
abbrev SO (X : Cx) (Z : Zx) (Γ : Gx) (e : Expr) (φ : EM D) (k : Od) : Prop := PE X e (Tof Z Γ φ (k.P Z.K))
def Pb : Bool → Bool → L2.St → Hp → AS → Prop := fun a b _ _ _ => a = b
abbrev ST (X : Cx) (Z : Zx) (Γ : Gx) (e : Expr) (φ : EM Bool) : Prop := PT X e (Tof Z Γ φ Pb)
abbrev SW (X : Cx) (Z : Zx) (Γ : Gx) (e : Expr) (φ : EM Bool) : Prop := PW X e (Tof Z Γ φ Pb)

section
variable {X : Cx} {Z : Zx} {Γ : Gx} {e a b : Expr} {φ φa φb : EM D} {t ta tb : Ty} {pos : Pos}
/-- what was there stays to be seen -/
theorem Od.keep {k : Od} {d : D} {v : V} {σ : L2.St} {H H' : Hp} {U : AS} (h : k.P Z.K d v σ H (Wa Γ σ U)) (e : Ext H (Wr Γ σ) H') : k.P Z.K d v σ H' (Wa Γ σ U) := by
  cases k with
  | v t => exact ⟨Fz.ext (fun _ z => .inl z) e h.1, h.2⟩
  | s i => exact h
theorem Od.vw {k : Od} {u : Ty} (hk : k.ok Γ u) {d : D} {v : V} {σ : L2.St} {H : Hp} {U : AS} {ρ : List D} (R : Rel Z.K Γ U ρ σ H) (h : k.P Z.K d v σ H (Wa Γ σ U)) : Vw Z.K H (Wa Γ σ U) (k.res d ρ) v ∧ u.has (k.res d ρ) := by
  cases k with
  | v t =>
    have e : t = u := hk
    subst e
    exact ⟨.inl h.1, h.2⟩
  | s i =>
    have e : Γ[i]? = some (.own u) := hk
    obtain ⟨d', a, h1, h2, h3, h4, _⟩ := R.own i u e
    have h' : σ[i]? = some (some v) := h
    rw [h2] at h'
    cases h'
    have ed : (Od.s i).res d ρ = d' := by
      show ρ.getD i .non = d'
      rw [List.getD_eq_getElem?_getD, h1] <;> rfl
    rw [ed]
    exact ⟨.inr ⟨a, rfl, h3⟩, h4⟩

/-! ### names and constants -/
def eVar (i : Nat) : EM D := fun ρ => .ok (ρ.getD i .non) ρ
def eC (d : D) : EM D := fun ρ => .ok d ρ
def eSl : EM D := fun ρ => .ok .non ρ
theorem getD_of {ρ : List D} {i : Nat} {d : D} (h : ρ[i]? = some d) : ρ.getD i .non = d := by
  rw [List.getD_eq_getElem?_getD, h] <;> rfl
theorem se_var {i : Nat} (hΓ : Γ[i]? = some (.fz t)) (h : PE X e (tVar i)) : SE X Z Γ e (eVar i) t := PE.imp h fun σ H Q ⟨ρ, U, R, q⟩ => by
  obtain ⟨d, v, h1, h2, h3, h4⟩ := R.fz i t hΓ
  refine ⟨v, h2, q v H Ext.refl R ⟨?_, ?_⟩⟩
  · rw [getD_of h1]; exact h3
  · rw [getD_of h1]; exact h4
theorem so_sl {i : Nat} (hΓ : Γ[i]? = some (.own t)) (h : PE X e (tVar i)) : SO X Z Γ e eSl (.s i) := PE.imp h fun σ H Q ⟨ρ, U, R, q⟩ => by
  obtain ⟨d, a, h1, h2, h3, h4, _⟩ := R.own i t hΓ
  exact ⟨.ref a, h2, q (.ref a) H Ext.refl R h2⟩
theorem se_c {d : D} {v : V} (h : PE X e (tC v)) (hf : ∀ H W, Fz Z.K H W d v) (ht : t.has d) : SE X Z Γ e (eC d) t := PE.imp h fun σ H Q ⟨ρ, U, R, q⟩ => q v H Ext.refl R ⟨hf _ _, ht⟩
theorem se_int {i j} : SE X Z Γ (.Constant (.int i) j pos) (eC (.int i)) .im := se_c pe_int (fun _ _ => rfl) rfl
theorem se_str {x j} : SE X Z Γ (.Constant (.str x) j pos) (eC (.str x)) .im := se_c pe_str (fun _ _ => rfl) rfl
theorem se_bl {b j} : SE X Z Γ (.Constant (.bool b) j pos) (eC (.bl b)) .im := se_c pe_bl (fun _ _ => rfl) rfl
theorem se_non {j} : SE X Z Γ (.Constant .none j pos) (eC .non) .im := se_c pe_non (fun _ _ => rfl) rfl
/-- forgetting a type -/
theorem SE.to {u : Ty} (h : SE X Z Γ e φ t) (w : ∀ d, t.has d → u.has d) : SE X Z Γ e φ u := PE.imp h fun σ H Q ⟨ρ, U, R, q⟩ => by
  refine ⟨ρ, U, R, ?_⟩
  revert q
  cases φ ρ with
  | ok d ρ' => exact fun q v H' h1 h2 h3 => q v H' h1 h2 ⟨h3.1, w d h3.2⟩
  | exc c p ρ' => exact fun q => q
  | bad => exact fun q => q
theorem SE.any (h : SE X Z Γ e φ t) : SE X Z Γ e φ .any := h.to fun _ _ => trivial

/-! ### operators -/
def liftO {α : Type} (o : Option α) (ρ : List D) : R α := match o with
  | some d => .ok d ρ
  | none => .bad
def eUn (f : D → Option D) (k : Od) (φ : EM D) : EM D := fun ρ => (φ ρ).bind fun d ρ => liftO (f (k.res d ρ)) ρ
def eBin (f : D → D → Option D) (ka : Od) (φa : EM D) (kb : Od) (φb : EM D) : EM D := fun ρ => (φa ρ).bind fun x ρ => (φb ρ).bind fun y ρ => liftO (f (ka.res x ρ) (kb.res y ρ)) ρ
/-- an operation by values does what f says -/
def OpS (K : PySem.W.Frag) (r : R2) (f : D → D → Option D) (ta tb t : Ty) : Prop := ∀ (H : Hp) (W : AS) (x y : V) (da db d : D), Vw K H W da x → Vw K H W db y → ta.has da → tb.has db → f da db = some d →
  t.has d ∧ ∀ Q : VK, (∀ v H', Ext H (fun _ => False) H' → Fz K H' W d v → Q v H') → r x y H Q
def UnS (K : PySem.W.Frag) (r : V → Hp → VK → Prop) (f : D → Option D) (ta t : Ty) : Prop := ∀ (H : Hp) (W : AS) (x : V) (da d : D), Vw K H W da x → ta.has da → f da = some d →
  t.has d ∧ ∀ Q : VK, (∀ v H', Ext H (fun _ => False) H' → Fz K H' W d v → Q v H') → r x H Q
theorem ext_mono {H H' : Hp} {W : AS} (e : Ext H (fun _ => False) H') : Ext H W H' := e.mono fun _ z => z.elim
/-- the core of two operands -/
theorem bin_core {f : D → D → Option D} {ka kb : Od} {r : R2} (hka : ka.ok Γ ta) (hkb : kb.ok Γ tb) (hr : OpS Z.K r f ta tb t) {σ : L2.St} {H : Hp} {Q : VK} (h : Tof Z Γ (eBin f ka φa kb φb) (Pf Z.K t) σ H Q) :
    tOp r (Tof Z Γ φa (ka.P Z.K)) (Tof Z Γ φb (kb.P Z.K)) σ H Q := by
  obtain ⟨ρ, U, R, q⟩ := h
  refine ⟨ρ, U, R, Aft.bind q fun da ρ1 x H1 e1 R1 p1 q => ⟨ρ1, U, R1, Aft.bind q fun db ρ2 y H2 e2 R2 p2 q => ?_⟩⟩
  have p1' := Od.keep p1 e2
  obtain ⟨vx, tx⟩ := Od.vw hka R2 p1'
  obtain ⟨vy, ty⟩ := Od.vw hkb R2 p2
  cases hf : f (ka.res da ρ2) (kb.res db ρ2) with
  | none =>
    rw [hf] at q
    exact q.elim
  | some d =>
    rw [hf] at q
    obtain ⟨td, hq⟩ := hr H2 _ x y _ _ d vx vy tx ty hf
    exact hq Q fun v H3 e3 z => q v H3 (ext_mono e3) (R2.same e3) ⟨z, td⟩
theorem un_core {f : D → Option D} {ka : Od} {r : V → Hp → VK → Prop} (hka : ka.ok Γ ta) (hr : UnS Z.K r f ta t) {σ : L2.St} {H : Hp} {Q : VK} (h : Tof Z Γ (eUn f ka φa) (Pf Z.K t) σ H Q) :
    tUn r (Tof Z Γ φa (ka.P Z.K)) σ H Q := by
  obtain ⟨ρ, U, R, q⟩ := h
  refine ⟨ρ, U, R, Aft.bind q fun da ρ1 x H1 e1 R1 p1 q => ?_⟩
  obtain ⟨vx, tx⟩ := Od.vw hka R1 p1
  cases hf : f (ka.res da ρ1) with
  | none =>
    rw [hf] at q
    exact q.elim
  | some d =>
    rw [hf] at q
    obtain ⟨td, hq⟩ := hr H1 _ x _ d vx tx hf
    exact hq Q fun v H3 e3 z => q v H3 (ext_mono e3) (R1.same e3) ⟨z, td⟩
theorem se_op {op : Operator} {f : D → D → Option D} {ka kb : Od} {r : R2} (ho : OpR X (binaryOp op) r) (hr : OpS Z.K r f ta tb t) (ha : SO X Z Γ a φa ka) (hb : SO X Z Γ b φb kb) (hka : ka.ok Γ ta := by rfl) (hkb : kb.ok Γ tb := by rfl) :
    SE X Z Γ (.BinOp a op b pos) (eBin f ka φa kb φb) t := PE.imp (pe_op ho ha hb) fun _ _ _ h => bin_core hka hkb hr h
theorem se_un {op : UnaryOp} {f : D → Option D} {ka : Od} {r : V → Hp → VK → Prop} (ho : UnR X (unaryOp op) r) (hr : UnS Z.K r f ta t) (ha : SO X Z Γ a φa ka) (hka : ka.ok Γ ta := by rfl) :
    SE X Z Γ (.UnaryOp op a pos) (eUn f ka φa) t := PE.imp (pe_un ho ha) fun _ _ _ h => un_core hka hr h
theorem se_cmp {op : CmpOp} {f : D → D → Option D} {ka kb : Od} {r : R2} (ho : OpR X (compareOp op) r) (hr : OpS Z.K r f ta tb t) (ha : SO X Z Γ a φa ka) (hb : SO X Z Γ b φb kb) (hm : behindInMarks op b = false) (hka : ka.ok Γ ta := by rfl) (hkb : kb.ok Γ tb := by rfl) :
    SE X Z Γ (.Compare a [op] [b] pos) (eBin f ka φa kb φb) t := PE.imp (pe_cmpR ho ha hb hm) fun _ _ _ h => bin_core hka hkb hr h
theorem se_ix {f : D → D → Option D} {ka kb : Od} {r : R2} (ho : IxR X r) (hr : OpS Z.K r f ta tb t) (ha : SO X Z Γ a φa ka) (hb : SO X Z Γ b φb kb) (hs : PlainIx b) (hka : ka.ok Γ ta := by rfl) (hkb : kb.ok Γ tb := by rfl) :
    SE X Z Γ (.Subscript a b pos) (eBin f ka φa kb φb) t := PE.imp (pe_ix ho ha hb hs) fun _ _ _ h => bin_core hka hkb hr h

/-! ### tests -/
def asB (d : D) (ρ : List D) : R Bool := match d with
  | .bl b => .ok b ρ
  | _ => .bad
def eT (φ : EM D) : EM Bool := fun ρ => (φ ρ).bind asB
theorem tst {u : Ty} {σ : L2.St} {H : Hp} {Q : Bool → Hp → Prop} (h : Tof Z Γ (eT φ) Pb σ H Q) : Tof Z Γ φ (Pf Z.K u) σ H (fun x H' => ∃ k, x = .bl k ∧ Q k H') := by
  obtain ⟨ρ, U, R, q⟩ := h
  refine ⟨ρ, U, R, Aft.bind q fun d ρ1 v H1 e1 R1 p1 q => ?_⟩
  cases d with
  | bl b => exact ⟨b, p1.1, q b H1 Ext.refl R1 rfl⟩
  | _ => exact q.elim
theorem st_cmp {op : CmpOp} {f : D → D → Option D} {ka kb : Od} {r : R2} (ho : OpR X (compareOp op) r) (hr : OpS Z.K r f ta tb t) (ha : SO X Z Γ a φa ka) (hb : SO X Z Γ b φb kb) (hm : behindInMarks op b = false) (hka : ka.ok Γ ta := by rfl) (hkb : kb.ok Γ tb := by rfl) :
    ST X Z Γ (.Compare a [op] [b] pos) (eT (eBin f ka φa kb φb)) := PT.imp (pt_cmpR ho ha hb hm) fun _ _ _ h => bin_core hka hkb hr (tst h)
/-- a value that is a bool -/
theorem st_val (h : SE X Z Γ e φ t) (he : ∀ whole, isTrue e X.env whole = (do let v ← whole; standAt e.pos; holding [v] (truthy v)) := by intro _; rfl) : ST X Z Γ e (eT φ) := PT.imp (pt_val h he) fun _ _ _ h => tst h
def eNotT (φ : EM Bool) : EM Bool := fun ρ => (φ ρ).bind fun b ρ => .ok (!b) ρ
def eAndT (φ ψ : EM Bool) : EM Bool := fun ρ => (φ ρ).bind fun b ρ => if b = true then ψ ρ else .ok false ρ
def eOrT (φ ψ : EM Bool) : EM Bool := fun ρ => (φ ρ).bind fun b ρ => if b = true then .ok true ρ else ψ ρ
variable {ψ χ : EM Bool}
theorem st_not (h : ST X Z Γ e ψ) : ST X Z Γ (.UnaryOp .Not e pos) (eNotT ψ) := PT.imp (pt_not h) fun σ H Q ⟨ρ, U, R, q⟩ =>
  ⟨ρ, U, R, Aft.bind q fun d ρ1 b H1 e1 R1 p1 q => q _ H1 Ext.refl R1 (by rw [show d = b from p1]; rfl)⟩
theorem and_core {σ : L2.St} {H : Hp} {Q : Bool → Hp → Prop} (h : Tof Z Γ (eAndT ψ χ) Pb σ H Q) : tAnd (Tof Z Γ ψ Pb) (Tof Z Γ χ Pb) σ H Q := by
  obtain ⟨ρ, U, R, q⟩ := h
  refine ⟨ρ, U, R, Aft.bind q fun d ρ1 b H1 e1 R1 p1 q => ?_⟩
  have p1' : d = b := p1
  subst p1'
  cases d with
  | false => exact q false H1 Ext.refl R1 rfl
  | true => exact ⟨ρ1, U, R1, q⟩
theorem or_core {σ : L2.St} {H : Hp} {Q : Bool → Hp → Prop} (h : Tof Z Γ (eOrT ψ χ) Pb σ H Q) : tOr (Tof Z Γ ψ Pb) (Tof Z Γ χ Pb) σ H Q := by
  obtain ⟨ρ, U, R, q⟩ := h
  refine ⟨ρ, U, R, Aft.bind q fun d ρ1 b H1 e1 R1 p1 q => ?_⟩
  have p1' : d = b := p1
  subst p1'
  cases d with
  | true => exact q true H1 Ext.refl R1 rfl
  | false => exact ⟨ρ1, U, R1, q⟩
variable {rest : List Expr}
theorem sw_and1 (h : ST X Z Γ a ψ) : SW X Z Γ (.BoolOp .And [a] pos) ψ := pw_and1 h
theorem sw_or1 (h : ST X Z Γ a ψ) : SW X Z Γ (.BoolOp .Or [a] pos) ψ := pw_or1 h
theorem sw_and (h : ST X Z Γ a ψ) (h2 : SW X Z Γ (.BoolOp .And (b :: rest) pos) χ) : SW X Z Γ (.BoolOp .And (a :: b :: rest) pos) (eAndT ψ χ) := PW.imp (pw_and h h2) fun _ _ _ h => and_core h
theorem sw_or (h : ST X Z Γ a ψ) (h2 : SW X Z Γ (.BoolOp .Or (b :: rest) pos) χ) : SW X Z Γ (.BoolOp .Or (a :: b :: rest) pos) (eOrT ψ χ) := PW.imp (pw_or h h2) fun _ _ _ h => or_core h
theorem st_w (h : SW X Z Γ e ψ) : ST X Z Γ e ψ := h.pt
/-- values: and, or, not of bools -/
def eB (ψ : EM Bool) : EM D := fun ρ => (ψ ρ).bind fun b ρ => .ok (.bl b) ρ
theorem of_tst {ψ : EM Bool} {σ : L2.St} {H : Hp} {Q : VK} (h : Tof Z Γ (eB ψ) (Pf Z.K .im) σ H Q) : Tof Z Γ ψ Pb σ H (fun b H' => Q (.bl b) H') := by
  obtain ⟨ρ, U, R, q⟩ := h
  exact ⟨ρ, U, R, Aft.bind q fun d ρ1 b H1 e1 R1 p1 q => q _ H1 Ext.refl R1 ⟨by rw [show d = b from p1]; rfl, rfl⟩⟩
/-- both ways of a choice -/
def eIf (ψ : EM Bool) (φa φb : EM D) : EM D := fun ρ => (ψ ρ).bind fun b ρ => if b = true then φa ρ else φb ρ
theorem se_if {c : Expr} (hc : ST X Z Γ c ψ) (ha : SE X Z Γ a φa t) (hb : SE X Z Γ b φb t) : SE X Z Γ (.IfExp c a b pos) (eIf ψ φa φb) t := PE.imp (pe_ifExp hc ha hb) fun σ H Q ⟨ρ, U, R, q⟩ => by
  refine ⟨ρ, U, R, Aft.bind q fun d ρ1 b H1 e1 R1 p1 q => ?_⟩
  have p1' : d = b := p1
  subst p1'
  cases d with
  | true => exact ⟨ρ1, U, R1, q⟩
  | false => exact ⟨ρ1, U, R1, q⟩
end
end VL
/-! VL3: statements. -/
namespace VL
open PySem L2

/-! ### one type within another -/
mutual
def Ty.le : Ty → Ty → Bool
  | .im, .im => true
  | .im, .any => true
  | .im, _ => false
  | .any, .any => true
  | .any, _ => false
  | .L t, .L u => t.le u
  | .L _, .any => true
  | .L _, _ => false
  | .M t, .M u => t.le u
  | .M _, .any => true
  | .M _, _ => false
  | .T ts, .T us => Ty.leL ts us
  | .T ts, .im => Ty.imL ts
  | .T _, .any => true
  | .T _, _ => false
def Ty.leL : List Ty → List Ty → Bool
  | [], [] => true
  | t :: ts, u :: us => t.le u && Ty.leL ts us
  | _, _ => false
def Ty.imL : List Ty → Bool
  | [] => true
  | t :: ts => t.le .im && Ty.imL ts
end
mutual
theorem Ty.le_has : ∀ {t u : Ty} {d : D}, t.le u = true → t.has d → u.has d
  | .im, .im, _, _, h => h
  | .im, .any, _, _, _ => trivial
  | .im, .L _, _, q, _ => by cases q
  | .im, .M _, _, q, _ => by cases q
  | .im, .T _, _, q, _ => by cases q
  | .any, .any, _, _, h => h
  | .any, .im, _, q, _ => by cases q
  | .any, .L _, _, q, _ => by cases q
  | .any, .M _, _, q, _ => by cases q
  | .any, .T _, _, q, _ => by cases q
  | .L t, .L u, _, q, ⟨ds, e, h⟩ => ⟨ds, e, fun x hx => Ty.le_has (t := t) q (h x hx)⟩
  | .L _, .any, _, _, _ => trivial
  | .L _, .im, _, q, _ => by cases q
  | .L _, .M _, _, q, _ => by cases q
  | .L _, .T _, _, q, _ => by cases q
  | .M t, .M u, _, q, ⟨ds, e, h⟩ => ⟨ds, e, fun x hx => Ty.le_has (t := t) q (h x hx)⟩
  | .M _, .any, _, _, _ => trivial
  | .M _, .im, _, q, _ => by cases q
  | .M _, .L _, _, q, _ => by cases q
  | .M _, .T _, _, q, _ => by cases q
  | .T ts, .T us, _, q, ⟨ds, e, h⟩ => ⟨ds, e, Ty.leL_has (ts := ts) q h⟩
  | .T ts, .im, _, q, ⟨ds, e, h⟩ => by
    rw [e]
    exact Ty.imL_has (ts := ts) q h
  | .T _, .any, _, _, _ => trivial
  | .T _, .L _, _, q, _ => by cases q
  | .T _, .M _, _, q, _ => by cases q
theorem Ty.leL_has : ∀ {ts us : List Ty} {ds : List D}, Ty.leL ts us = true → Ty.hasL ts ds → Ty.hasL us ds
  | [], [], _, _, h => h
  | [], _ :: _, _, q, _ => by cases q
  | _ :: _, [], _, q, _ => by cases q
  | t :: ts, u :: us, ds, q, ⟨d, r, e, h1, h2⟩ => by
    have q' : (t.le u && Ty.leL ts us) = true := q
    rw [Bool.and_eq_true] at q'
    exact ⟨d, r, e, Ty.le_has q'.1 h1, Ty.leL_has q'.2 h2⟩
theorem Ty.imL_has : ∀ {ts : List Ty} {ds : List D}, Ty.imL ts = true → Ty.hasL ts ds → D.immL ds = true
  | [], ds, _, h => by rw [show ds = [] from h]; rfl
  | t :: ts, ds, q, ⟨d, r, e, h1, h2⟩ => by
    have q' : (t.le .im && Ty.imL ts) = true := q
    rw [Bool.and_eq_true] at q'
    rw [e]
    show (d.imm && D.immL r) = true
    rw [show d.imm = true from Ty.le_has (u := .im) q'.1 h1, Ty.imL_has q'.2 h2]
    rfl
end
def Slot.le : Slot → Slot → Bool
  | _, .un => true
  | .fz t, .fz u => t.le u
  | .own t, .fz u => t.le u
  | .own t, .own u => t.le u && u.le t
  | _, _ => false
def Gx.le : Gx → Gx → Bool
  | [], [] => true
  | a :: r, b :: s => a.le b && Gx.le r s
  | _, _ => false
theorem Gx.le_len : ∀ {Γ Γ' : Gx}, Gx.le Γ Γ' = true → Γ.length = Γ'.length
  | [], [], _ => rfl
  | [], _ :: _, h => by cases h
  | _ :: _, [], h => by cases h
  | a :: r, b :: s, h => by
    have h' : (a.le b && Gx.le r s) = true := h
    rw [Bool.and_eq_true] at h'
    rw [List.length_cons, List.length_cons, Gx.le_len h'.2]
theorem Gx.le_at : ∀ {Γ Γ' : Gx} {i : Nat} {b : Slot}, Gx.le Γ Γ' = true → Γ'[i]? = some b → ∃ a, Γ[i]? = some a ∧ a.le b = true
  | [], [], _, _, _, e => by simp at e
  | [], _ :: _, _, _, h, _ => by cases h
  | _ :: _, [], _, _, h, _ => by cases h
  | a :: r, b :: s, 0, c, h, e => by
    have h' : (a.le b && Gx.le r s) = true := h
    rw [Bool.and_eq_true] at h'
    have e' : b = c := by simpa using e
    subst e'
    exact ⟨a, rfl, h'.1⟩
  | a :: r, b :: s, i + 1, c, h, e => by
    have h' : (a.le b && Gx.le r s) = true := h
    rw [Bool.and_eq_true] at h'
    obtain ⟨x, hx, q⟩ := Gx.le_at (i := i) h'.2 (by simpa using e)
    exact ⟨x, by simpa using hx, q⟩
section
variable {K : PySem.W.Frag} {H H' : Hp} {U U' W W' : AS} {Γ Γ' : Gx} {ρ ρ' : List D} {σ σ' : L2.St} {d : D} {v : V} {a p : Addr} {o : HO} {t : Ty}
theorem Gx.le_wr (h : Gx.le Γ Γ' = true) : ∀ x, Wr Γ' σ x → Wr Γ σ x := fun x ⟨i, t, h1, h2⟩ => by
  obtain ⟨b, hb, q⟩ := Gx.le_at h h1
  cases b with
  | un => cases q
  | fz u => cases q
  | own u => exact ⟨i, u, hb, h2⟩
theorem Rel.weak (R : Rel K Γ U ρ σ H) (h : Gx.le Γ Γ' = true) : Rel K Γ' U ρ σ H := by
  have hw := Gx.le_wr (σ := σ) h
  have hwa : ∀ x, Wa Γ' σ U x → Wa Γ σ U x := fun x z => z.imp (hw x) id
  refine ⟨R.len, (Gx.le_len h).symm.trans R.glen, fun i t e => ?_, fun i t e => ?_, fun i j t u a e1 e2 e3 e4 => ?_, R.trk⟩
  · obtain ⟨b, hb, q⟩ := Gx.le_at h e
    cases b with
    | un => cases q
    | fz u =>
      obtain ⟨d, v, h1, h2, h3, h4⟩ := R.fz i u hb
      exact ⟨d, v, h1, h2, Fz.mono (fun x z => .inl (hwa x z)) h3, Ty.le_has q h4⟩
    | own u =>
      obtain ⟨d, a, h1, h2, h3, h4, h5⟩ := R.own i u hb
      refine ⟨d, .ref a, h1, h2, h3.fz (fun z => ?_) (fun x z => .inl (hwa x z)), Ty.le_has q h4⟩
      rcases z with ⟨j, w, k1, k2⟩ | z
      · obtain ⟨c, hc, q2⟩ := Gx.le_at h k1
        cases c with
        | un => cases q2
        | fz _ => cases q2
        | own w' =>
          have := R.inj i j u w' a hb hc h2 k2
          subst this
          rw [e] at k1
          cases k1
      · exact h5 z
  · obtain ⟨b, hb, q⟩ := Gx.le_at h e
    cases b with
    | un => cases q
    | fz u => cases q
    | own u =>
      have q' : (u.le t && t.le u) = true := q
      rw [Bool.and_eq_true] at q'
      obtain ⟨d, a, h1, h2, h3, h4, h5⟩ := R.own i u hb
      exact ⟨d, a, h1, h2, h3.mono fun x z => .inl (hwa x z), Ty.le_has q'.1 h4, h5⟩
  · obtain ⟨b, hb, q⟩ := Gx.le_at h e1
    obtain ⟨c, hc, q2⟩ := Gx.le_at h e2
    cases b with
    | un => cases q
    | fz _ => cases q
    | own _ =>
      cases c with
      | un => cases q2
      | fz _ => cases q2
      | own _ => exact R.inj i j _ _ a hb hc e3 e4

/-! ### what a statement leaves -/
/-- new writable addresses -/
def Nw (Γ : Gx) (σ : L2.St) (H : Hp) (Γ' : Gx) (σ' : L2.St) : Prop := ∀ a, Wr Γ' σ' a → Wr Γ σ a ∨ H a = none
structure Stp (Z : Zx) (Γ : Gx) (σ : L2.St) (H : Hp) (σ' : L2.St) (H' : Hp) : Prop where
  ext : Ext H (Wr Γ σ) H'
  io : ∀ (i : Nat) (t : Ty), Z.Γr[i]? = some (.own t) → σ'[i]? = σ[i]?
def Rok (Z : Zx) (Γ : Gx) (σ : L2.St) (H : Hp) (U : AS) (d : D) (v : V) (ρ' : List D) (σ' : L2.St) (H' : Hp) : Prop := match Z.rk with
  | .fz t => Rel Z.K Z.Γr U ρ' σ' H' ∧ Fz Z.K H' (Wa Z.Γr σ' U) d v ∧ t.has d
  | .nw t => ∃ p, v = .ref p ∧ (Wr Γ σ p ∨ H p = none) ∧ Rel Z.K Z.Γr (UN U p) ρ' σ' H' ∧ Own Z.K H' (Wa Z.Γr σ' (UN U p)) d p ∧ t.has d
  | .no t => (v = .non ∧ d = .non ∧ Rel Z.K Z.Γr U ρ' σ' H') ∨ ∃ p, v = .ref p ∧ (Wr Γ σ p ∨ H p = none) ∧ Rel Z.K Z.Γr (UN U p) ρ' σ' H' ∧ Own Z.K H' (Wa Z.Γr σ' (UN U p)) d p ∧ t.has d
/-- the slots at a break, at a continue -/
structure Lp where
  b : Gx
  c : Gx
def SAft (Z : Zx) (L : Lp) (Γ Γ' : Gx) (σ : L2.St) (H : Hp) (U : AS) (D : Ends) : R Fl → Prop
  | .ok .nx ρ' => ∀ σ' H', Stp Z Γ σ H σ' H' → Nw Γ σ H Γ' σ' → Rel Z.K Γ' U ρ' σ' H' → D.nx σ' H'
  | .ok .bk ρ' => ∀ σ' H', Stp Z Γ σ H σ' H' → Nw Γ σ H L.b σ' → Rel Z.K L.b U ρ' σ' H' → D.bk σ' H'
  | .ok .ct ρ' => ∀ σ' H', Stp Z Γ σ H σ' H' → Nw Γ σ H L.c σ' → Rel Z.K L.c U ρ' σ' H' → D.ct σ' H'
  | .ok (.rt d) ρ' => ∀ v σ' H', Stp Z Γ σ H σ' H' → Rok Z Γ σ H U d v ρ' σ' H' → D.rt v H'
  | .exc c p ρ' => ∀ cls od σ' H', Stp Z Γ σ H σ' H' → Nw Γ σ H Z.ΓX σ' → Rel Z.K Z.ΓX U ρ' σ' H' → Z.XR c p cls od H' → Z.E cls od σ' H'
  | .bad => False
def Sof (Z : Zx) (L : Lp) (Γ Γ' : Gx) (φ : SM) : TS := fun D σ H => ∃ ρ U, Rel Z.K Γ U ρ σ H ∧ SAft Z L Γ Γ' σ H U D (φ ρ)
abbrev SS (X : Cx) (Z : Zx) (L : Lp) (Γ Γ' : Gx) (s : Stmt) (φ : SM) : Prop := PS X s (Sof Z L Γ Γ' φ)
abbrev SSs (X : Cx) (Z : Zx) (L : Lp) (Γ Γ' : Gx) (s : List Stmt) (φ : SM) : Prop := PSs X s (Sof Z L Γ Γ' φ)
end
section
variable {Z : Zx} {L : Lp} {Γ Γ' Γ1 Γ2 : Gx} {σ σ' σ1 : L2.St} {H H' H1 : Hp} {U : AS} {D : Ends}
theorem Stp.refl : Stp Z Γ σ H σ H := ⟨Ext.refl, fun _ _ _ => rfl⟩
theorem Stp.trans (a : Stp Z Γ σ H σ1 H1) (n : Nw Γ σ H Γ1 σ1) (b : Stp Z Γ1 σ1 H1 σ' H') : Stp Z Γ σ H σ' H' :=
  ⟨⟨fun x o e w => b.ext.keep x o (a.ext.keep x o e w) fun z => (n x z).elim w fun q => (by rw [e] at q; cases q), fun x xs e => b.ext.tup x xs (a.ext.tup x xs e), fun x e => b.ext.there x (a.ext.there x e)⟩,
   fun i t e => (b.io i t e).trans (a.io i t e)⟩
theorem Nw.trans (a : Stp Z Γ σ H σ1 H1) (n : Nw Γ σ H Γ1 σ1) (m : Nw Γ1 σ1 H1 Γ2 σ') : Nw Γ σ H Γ2 σ' := fun x z => (m x z).elim (n x) fun q => .inr (a.ext.fresh q)
theorem Rok.back {d : VL.D} {v : V} {ρ' : List VL.D} (a : Stp Z Γ σ H σ1 H1) (n : Nw Γ σ H Γ1 σ1) (r : Rok Z Γ1 σ1 H1 U d v ρ' σ' H') : Rok Z Γ σ H U d v ρ' σ' H' := by
  unfold Rok at r ⊢
  cases h : Z.rk with
  | fz t => rw [h] at r; exact r
  | nw t =>
    rw [h] at r
    obtain ⟨p, h1, h2, h3⟩ := r
    exact ⟨p, h1, h2.elim (n p) fun q => .inr (a.ext.fresh q), h3⟩
  | no t =>
    rw [h] at r
    rcases r with r | ⟨p, h1, h2, h3⟩
    · exact .inl r
    · exact .inr ⟨p, h1, h2.elim (n p) fun q => .inr (a.ext.fresh q), h3⟩
theorem SAft.later {r : R Fl} (q : SAft Z L Γ Γ' σ H U D r) (a : Stp Z Γ σ H σ1 H1) (n : Nw Γ σ H Γ1 σ1) : SAft Z L Γ1 Γ' σ1 H1 U D r := by
  cases r with
  | bad => exact q
  | exc c p ρ' => exact fun cls od σ' H' b m => q cls od σ' H' (a.trans n b) (Nw.trans a n m)
  | ok f ρ' =>
    cases f with
    | nx => exact fun σ' H' b m => q σ' H' (a.trans n b) (Nw.trans a n m)
    | bk => exact fun σ' H' b m => q σ' H' (a.trans n b) (Nw.trans a n m)
    | ct => exact fun σ' H' b m => q σ' H' (a.trans n b) (Nw.trans a n m)
    | rt d => exact fun v σ' H' b r => q v σ' H' (a.trans n b) (r.back a n)
/-- an expression ahead of the rest of a statement -/
theorem SAft.ofA {α β : Type} {P : α → β → L2.St → Hp → AS → Prop} {x : R α} {f : α → List VL.D → R Fl} {Q : β → Hp → Prop} (hX : Gx.le Γ Z.ΓX = true)
    (q : SAft Z L Γ Γ' σ H U D (x.bind f)) (k : ∀ a ρ1 y H1, Rel Z.K Γ U ρ1 σ H1 → P a y σ H1 (Wa Γ σ U) → SAft Z L Γ Γ' σ H1 U D (f a ρ1) → Q y H1) : Aft Z Γ P σ H U Q x := by
  cases x with
  | bad => exact q
  | ok a ρ1 => exact fun y H1 e R p => k a ρ1 y H1 R p (q.later ⟨e, fun _ _ _ => rfl⟩ fun _ z => .inl z)
  | exc c p ρ1 => exact fun cls od H1 e R xr => q cls od σ H1 ⟨e, fun _ _ _ => rfl⟩ (fun x z => .inl (Gx.le_wr hX x z)) R xr
end
end VL
/-! VL4: the rules of statements. -/
namespace VL
open PySem L2

theorem PS.imp {X : Cx} {s : Stmt} {t t' : TS} (h : PS X s t) (w : ∀ D σ H, t' D σ H → t D σ H) : PS X s t' := ⟨fun pins s σ H D I q => h.run pins s σ H D I (w D σ H q)⟩
theorem PSs.imp {X : Cx} {s : List Stmt} {t t' : TS} (h : PSs X s t) (w : ∀ D σ H, t' D σ H → t D σ H) : PSs X s t' := ⟨fun pins s σ H D I q => h.run pins s σ H D I (w D σ H q)⟩

/-! ### new objects -/
def AftN (Z : Zx) (Γ : Gx) (t : Ty) (σ : L2.St) (H : Hp) (U : AS) (Q : VK) : R D → Prop
  | .ok d ρ' => ∀ p H', Ext H (Wr Γ σ) H' → H p = none → Rel Z.K Γ (UN U p) ρ' σ H' → Own Z.K H' (Wa Γ σ (UN U p)) d p → t.has d → Q (.ref p) H'
  | .exc c p ρ' => ∀ cls od H', Ext H (Wr Γ σ) H' → Rel Z.K Z.ΓX U ρ' σ H' → Z.XR c p cls od H' → Z.E cls od σ H'
  | .bad => False
def TofN (Z : Zx) (Γ : Gx) (φ : EM D) (t : Ty) : TE := fun σ H Q => ∃ ρ U, Rel Z.K Γ U ρ σ H ∧ AftN Z Γ t σ H U Q (φ ρ)
abbrev SN (X : Cx) (Z : Zx) (Γ : Gx) (e : Expr) (φ : EM D) (t : Ty) : Prop := PE X e (TofN Z Γ φ t)
section
variable {K : PySem.W.Frag} {H H' : Hp} {U U' W W' W2 : AS} {Γ Γ' : Gx} {ρ ρ' : List D} {σ σ' : L2.St} {d : D} {v : V} {a p : Addr} {o : HO} {t : Ty}
theorem AftN.later {Z : Zx} {Q : VK} {H1 : Hp} {r : R D} (q : AftN Z Γ t σ H U Q r) (e : Ext H (Wr Γ σ) H1) : AftN Z Γ t σ H1 U Q r := by
  cases r with
  | ok d ρ' => exact fun p H' e' hp => q p H' (e.trans e') (e.fresh hp)
  | exc c p ρ' => exact fun cls od H' e' => q cls od H' (e.trans e')
  | bad => exact q
theorem Rel.notWr (R : Rel K Γ (UN U p) ρ σ H) : ¬ Wr Γ σ p := fun z => (R.wr z).2 (.inr rfl)
/-- a new object is given up -/
theorem SN.fz {X : Cx} {Z : Zx} {e : Expr} {φ : EM D} (h : SN X Z Γ e φ t) : SE X Z Γ e φ t := PE.imp h fun σ H Q ⟨ρ, U, R, q⟩ => by
  refine ⟨ρ, U, R, ?_⟩
  revert q
  cases φ ρ with
  | bad => exact fun q => q
  | exc c p ρ' => exact fun q => q
  | ok d ρ' =>
    intro q p H' e1 hp R1 o1 td
    have sub : ∀ x, U x → UN U p x := fun x z => .inl z
    refine q (.ref p) H' e1 (R1.lessU sub) ⟨o1.fz (fun z => z.elim R1.notWr fun z => R.trk p z hp) fun x z => .inl (wa_sub sub x z), td⟩
theorem Fz.ext2 (h : Fz K H W2 d v) (hw : ∀ x, W x → W2 x) (e : Ext H W H') (hn : ∀ x, W' x → W2 x ∨ H x = none) : Fz K H' W' d v := by
  have h3 : Fz K H (fun x => W2 x ∨ W' x) d v := h.mono fun x z => z.elim .inl (hn x)
  exact (Fz.ext (fun x z => .inl (hw x z)) e h3).mono fun x z => .inl (.inr z)

/-! ### stores -/
theorem set_at {α : Type} {l : List α} {i j : Nat} {s x : α} (h : (l.set i s)[j]? = some x) : (i = j ∧ x = s ∧ j < l.length) ∨ (i ≠ j ∧ l[j]? = some x) := by
  by_cases e : i = j
  · subst e
    have hl : i < l.length := by
      have := (List.getElem?_eq_some_iff.mp h).1
      rwa [List.length_set] at this
    rw [List.getElem?_set_self hl] at h
    exact .inl ⟨rfl, (Option.some.inj h).symm, hl⟩
  · rw [List.getElem?_set_ne e] at h
    exact .inr ⟨e, h⟩
theorem wr_set_fz {s : Slot} (hs : ∀ t, s ≠ .own t) {x : Option V} {i : Nat} : ∀ a, Wr (Γ.set i s) (σ.set i x) a → Wr Γ σ a := fun a ⟨j, t, h1, h2⟩ => by
  rcases set_at h1 with ⟨_, q, _⟩ | ⟨n, q⟩
  · exact absurd q.symm (hs t)
  · rw [List.getElem?_set_ne n] at h2
    exact ⟨j, t, q, h2⟩
theorem Rel.set (R : Rel K Γ U ρ σ H) (i : Nat) (f : Fz K H (Wa Γ σ U) d v) (ht : t.has d) : Rel K (Γ.set i (.fz t)) U (ρ.set i d) (σ.set i (some v)) H := by
  have hw := wr_set_fz (Γ := Γ) (σ := σ) (s := .fz t) (fun _ z => by cases z) (x := some v) (i := i)
  have hwa : ∀ x, Wa (Γ.set i (.fz t)) (σ.set i (some v)) U x → Wa Γ σ U x := fun x z => z.imp (hw x) id
  refine ⟨by rw [List.length_set, List.length_set]; exact R.len, by rw [List.length_set, List.length_set]; exact R.glen, fun j u e => ?_, fun j u e => ?_, fun j k u u' a e1 e2 e3 e4 => ?_, R.trk⟩
  · rcases set_at e with ⟨q1, q2, q3⟩ | ⟨n, q⟩
    · subst q1
      cases q2
      refine ⟨d, v, List.getElem?_set_self (by rw [R.len, ← R.glen]; exact q3), List.getElem?_set_self (by rw [← R.glen]; exact q3), f.mono fun x z => .inl (hwa x z), ht⟩
    · obtain ⟨d', v', h1, h2, h3, h4⟩ := R.fz j u q
      exact ⟨d', v', by rw [List.getElem?_set_ne n]; exact h1, by rw [List.getElem?_set_ne n]; exact h2, h3.mono fun x z => .inl (hwa x z), h4⟩
  · rcases set_at e with ⟨_, q2, _⟩ | ⟨n, q⟩
    · cases q2
    · obtain ⟨d', v', h1, h2, h3, h4⟩ := R.own j u q
      exact ⟨d', v', by rw [List.getElem?_set_ne n]; exact h1, by rw [List.getElem?_set_ne n]; exact h2, h3.mono fun x z => .inl (hwa x z), h4⟩
  · rcases set_at e1 with ⟨_, q2, _⟩ | ⟨n, q⟩
    · cases q2
    · rcases set_at e2 with ⟨_, q2, _⟩ | ⟨n2, q2⟩
      · cases q2
      · rw [List.getElem?_set_ne n] at e3
        rw [List.getElem?_set_ne n2] at e4
        exact R.inj j k _ _ a q q2 e3 e4
theorem wr_set_own {i : Nat} : ∀ a, Wr (Γ.set i (.own t)) (σ.set i (some (.ref p))) a → Wr Γ σ a ∨ a = p := fun a ⟨j, u, h1, h2⟩ => by
  rcases set_at h1 with ⟨q1, _, q3⟩ | ⟨n, q⟩
  · subst q1
    rcases set_at h2 with ⟨_, q, _⟩ | ⟨n, _⟩
    · cases q
      exact .inr rfl
    · exact absurd rfl n
  · rw [List.getElem?_set_ne n] at h2
    exact .inl ⟨j, u, q, h2⟩
theorem Rel.setOwn (R : Rel K Γ (UN U p) ρ σ H) (hU : ¬ U p) (i : Nat) (f : Own K H (Wa Γ σ (UN U p)) d p) (ht : t.has d) : Rel K (Γ.set i (.own t)) U (ρ.set i d) (σ.set i (some (.ref p))) H := by
  have hw := wr_set_own (Γ := Γ) (σ := σ) (t := t) (p := p) (i := i)
  have hwa : ∀ x, Wa (Γ.set i (.own t)) (σ.set i (some (.ref p))) U x → Wa Γ σ (UN U p) x := fun x z => z.elim (fun z => (hw x z).elim .inl fun q => .inr (.inr q)) fun z => .inr (.inl z)
  refine ⟨by rw [List.length_set, List.length_set]; exact R.len, by rw [List.length_set, List.length_set]; exact R.glen, fun j u e => ?_, fun j u e => ?_, fun j k u u' a e1 e2 e3 e4 => ?_, fun a z => R.trk a (.inl z)⟩
  · rcases set_at e with ⟨_, q2, _⟩ | ⟨n, q⟩
    · cases q2
    · obtain ⟨d', v', h1, h2, h3, h4⟩ := R.fz j u q
      exact ⟨d', v', by rw [List.getElem?_set_ne n]; exact h1, by rw [List.getElem?_set_ne n]; exact h2, h3.mono fun x z => .inl (hwa x z), h4⟩
  · rcases set_at e with ⟨q1, q2, q3⟩ | ⟨n, q⟩
    · subst q1
      cases q2
      exact ⟨d, p, List.getElem?_set_self (by rw [R.len, ← R.glen]; exact q3), List.getElem?_set_self (by rw [← R.glen]; exact q3), f.mono fun x z => .inl (hwa x z), ht, hU⟩
    · obtain ⟨d', v', h1, h2, h3, h4, h5⟩ := R.own j u q
      exact ⟨d', v', by rw [List.getElem?_set_ne n]; exact h1, by rw [List.getElem?_set_ne n]; exact h2, h3.mono fun x z => .inl (hwa x z), h4, fun z => h5 (.inl z)⟩
  · have at' : ∀ {j : Nat} {u : Ty} {b : Addr}, (Γ.set i (.own t))[j]? = some (.own u) → (σ.set i (some (V.ref p)))[j]? = some (some (.ref b)) → (i = j ∧ b = p) ∨ (i ≠ j ∧ b ≠ p ∧ Γ[j]? = some (.own u) ∧ σ[j]? = some (some (.ref b))) := fun {j u b} e e' => by
      rcases set_at e with ⟨q1, _, _⟩ | ⟨n, q⟩
      · subst q1
        rcases set_at e' with ⟨_, q, _⟩ | ⟨n, _⟩
        · cases q
          exact .inl ⟨rfl, rfl⟩
        · exact absurd rfl n
      · rw [List.getElem?_set_ne n] at e'
        obtain ⟨d', b', _, h2, _, _, h5⟩ := R.own j u q
        rw [e'] at h2
        cases h2
        exact .inr ⟨n, fun z => h5 (.inr z), q, e'⟩
    rcases at' e1 e3 with ⟨q1, q2⟩ | ⟨q1, q2, q3, q4⟩
    · rcases at' e2 e4 with ⟨r1, r2⟩ | ⟨r1, r2, r3, r4⟩
      · rw [← q1, ← r1]
      · exact absurd q2 r2
    · rcases at' e2 e4 with ⟨r1, r2⟩ | ⟨r1, r2, r3, r4⟩
      · exact absurd r2 q2
      · exact R.inj j k _ _ a q3 r3 q4 r4
end

/-! ### the rules -/
section
variable {X : Cx} {Z : Zx} {L : Lp} {Γ Γ' Γ1 Γ2 : Gx} {e : Expr} {s : Stmt} {rest : List Stmt} {φ : EM D} {ψ : EM Bool} {β γ : SM} {t u : Ty} {pos : Pos} {α : Type}
def sNx : SM := fun ρ => .ok .nx ρ
def sSeq (β γ : SM) : SM := fun ρ => (β ρ).bind fun f ρ => match f with
  | .nx => γ ρ
  | .rt d => .ok (.rt d) ρ
  | .bk => .ok .bk ρ
  | .ct => .ok .ct ρ
theorem seq_core {σ : L2.St} {H : Hp} {D : Ends} (h : Sof Z L Γ Γ2 (sSeq β γ) D σ H) : Sof Z L Γ Γ1 β { D with nx := Sof Z L Γ1 Γ2 γ D } σ H := by
  obtain ⟨ρ, U, R, q⟩ := h
  refine ⟨ρ, U, R, ?_⟩
  unfold sSeq at q
  revert q
  cases β ρ with
  | bad => exact fun q => q
  | exc c p ρ' => exact fun q => q
  | ok f ρ' =>
    cases f with
    | nx => exact fun q σ' H' a n R' => ⟨ρ', U, R', SAft.later q a n⟩
    | rt d => exact fun q => q
    | bk => exact fun q => q
    | ct => exact fun q => q
theorem sss_nil : SSs X Z L Γ Γ [] sNx := PSs.imp pss_nil fun D σ H ⟨ρ, U, R, q⟩ => q σ H .refl (fun _ z => .inl z) R
theorem sss_cons (h1 : SS X Z L Γ Γ1 s β) (h2 : SSs X Z L Γ1 Γ2 rest γ) : SSs X Z L Γ Γ2 (s :: rest) (sSeq β γ) := PSs.imp (pss_cons h1 h2) fun D σ H h => seq_core h
theorem sss_one (h1 : SS X Z L Γ Γ1 s β) : SSs X Z L Γ Γ1 [s] β := pss_one h1
/-- forgetting ahead, behind -/
theorem weakL_core {D : Ends} {σ : L2.St} {H : Hp} (w : Gx.le Γ Γ1 = true) (h : Sof Z L Γ Γ2 β D σ H) : Sof Z L Γ1 Γ2 β D σ H := by
  obtain ⟨ρ, U, R, q⟩ := h
  exact ⟨ρ, U, R.weak w, SAft.later q .refl fun x z => .inl (Gx.le_wr w x z)⟩
theorem weakR_core {D : Ends} {σ : L2.St} {H : Hp} (w : Gx.le Γ1 Γ2 = true) (h : Sof Z L Γ Γ2 β D σ H) : Sof Z L Γ Γ1 β D σ H := by
  obtain ⟨ρ, U, R, q⟩ := h
  refine ⟨ρ, U, R, ?_⟩
  revert q
  cases β ρ with
  | bad => exact fun q => q
  | exc c p ρ' => exact fun q => q
  | ok f ρ' =>
    cases f with
    | nx => exact fun q σ' H' a n R' => q σ' H' a (fun x z => n x (Gx.le_wr w x z)) (R'.weak w)
    | rt d => exact fun q => q
    | bk => exact fun q => q
    | ct => exact fun q => q
theorem sss_wL (h : SSs X Z L Γ1 Γ2 rest β) (w : Gx.le Γ Γ1 = true := by rfl) : SSs X Z L Γ Γ2 rest β := PSs.imp h fun _ _ _ h => weakL_core w h
theorem sss_wR (h : SSs X Z L Γ Γ1 rest β) (w : Gx.le Γ1 Γ2 = true := by rfl) : SSs X Z L Γ Γ2 rest β := PSs.imp h fun _ _ _ h => weakR_core w h
theorem ss_wL (h : SS X Z L Γ1 Γ2 s β) (w : Gx.le Γ Γ1 = true := by rfl) : SS X Z L Γ Γ2 s β := PS.imp h fun _ _ _ h => weakL_core w h
theorem ss_wR (h : SS X Z L Γ Γ1 s β) (w : Gx.le Γ1 Γ2 = true := by rfl) : SS X Z L Γ Γ2 s β := PS.imp h fun _ _ _ h => weakR_core w h

theorem ss_pass : SS X Z L Γ Γ (.Pass pos) sNx := PS.imp ps_pass fun D σ H ⟨ρ, U, R, q⟩ => q σ H .refl (fun _ z => .inl z) R
def sBk : SM := fun ρ => .ok .bk ρ
def sCt : SM := fun ρ => .ok .ct ρ
theorem ss_brk (w : Gx.le Γ L.b = true := by rfl) : SS X Z L Γ Γ' (.Break pos) sBk := PS.imp ps_break fun D σ H ⟨ρ, U, R, q⟩ => q σ H .refl (fun x z => .inl (Gx.le_wr w x z)) (R.weak w)
theorem ss_cnt (w : Gx.le Γ L.c = true := by rfl) : SS X Z L Γ Γ' (.Continue pos) sCt := PS.imp ps_continue fun D σ H ⟨ρ, U, R, q⟩ => q σ H .refl (fun x z => .inl (Gx.le_wr w x z)) (R.weak w)

/-- a value into a name -/
def sSet (i : Nat) (φ : EM D) : SM := fun ρ => (φ ρ).bind fun d ρ => .ok .nx (ρ.set i d)
theorem stp_set {σ : L2.St} {H : Hp} {i : Nat} {x : Option V} (hr : Z.Γr[i]? = some .un) : Stp Z Γ σ H (σ.set i x) H := ⟨.refl, fun j t h => by
  have n : i ≠ j := fun z => by
    subst z
    rw [hr] at h
    cases h
  rw [List.getElem?_set_ne n]⟩
theorem set_core {D : Ends} {σ : L2.St} {H : Hp} {i : Nat} (hX : Gx.le Γ Z.ΓX = true) (hr : Z.Γr[i]? = some .un) (h : Sof Z L Γ (Γ.set i (.fz t)) (sSet i φ) D σ H) : tAsg (Tof Z Γ φ (Pf Z.K t)) (gName i) D σ H := by
  obtain ⟨ρ, U, R, q⟩ := h
  exact ⟨ρ, U, R, SAft.ofA hX q fun d ρ1 v H1 R1 p1 q => q (σ.set i (some v)) H1 (stp_set hr) (fun x z => .inl (wr_set_fz (fun _ z => by cases z) x z)) (R1.set i p1.1 p1.2)⟩
theorem ss_set {i : Nat} {x : Str} {pos' : Pos} (hN : X.N.Nodup) (hi : X.N[i]? = some x) (hx : Loc X.env.scope x) (he : SE X Z Γ e φ t) (hX : Gx.le Γ Z.ΓX = true := by rfl) (hr : Z.Γr[i]? = some .un := by rfl)
    (hs : swapsWith e (some (.Name x pos')) pos.line X.env = pure false := by rfl) (hf : X.fn x = true ∨ X.env.scope.names.lookup x = some .local := by first | exact .inl rfl | exact .inr rfl | assumption) :
    SS X Z L Γ (Γ.set i (.fz t)) (.Assign [.Name x pos'] e pos) (sSet i φ) := PS.imp (ps_set hN hi hx he hs hf) fun D σ H h => set_core hX hr h
theorem setN_core {D : Ends} {σ : L2.St} {H : Hp} {i : Nat} (hX : Gx.le Γ Z.ΓX = true) (hr : Z.Γr[i]? = some .un) (h : Sof Z L Γ (Γ.set i (.own t)) (sSet i φ) D σ H) : tAsg (TofN Z Γ φ t) (gName i) D σ H := by
  obtain ⟨ρ, U, R, q⟩ := h
  refine ⟨ρ, U, R, ?_⟩
  unfold sSet at q
  revert q
  cases φ ρ with
  | bad => exact fun q => q
  | exc c p ρ' => exact fun q cls od H1 e R xr => q cls od σ H1 ⟨e, fun _ _ _ => rfl⟩ (fun x z => .inl (Gx.le_wr hX x z)) R xr
  | ok d ρ' =>
    intro q p H' e1 hp R1 o1 td
    refine q (σ.set i (some (.ref p))) H' ⟨e1, (stp_set (Γ := Γ) (H := H') hr).io⟩ (fun x z => (wr_set_own x z).imp id fun z => by rw [z]; exact hp) (R1.setOwn (fun z => R.trk p z hp) i o1 td)
theorem ss_setN {i : Nat} {x : Str} {pos' : Pos} (hN : X.N.Nodup) (hi : X.N[i]? = some x) (hx : Loc X.env.scope x) (he : SN X Z Γ e φ t) (hX : Gx.le Γ Z.ΓX = true := by rfl) (hr : Z.Γr[i]? = some .un := by rfl)
    (hs : swapsWith e (some (.Name x pos')) pos.line X.env = pure false := by rfl) (hf : X.fn x = true ∨ X.env.scope.names.lookup x = some .local := by first | exact .inl rfl | exact .inr rfl | assumption) :
    SS X Z L Γ (Γ.set i (.own t)) (.Assign [.Name x pos'] e pos) (sSet i φ) := PS.imp (ps_set hN hi hx he hs hf) fun D σ H h => setN_core hX hr h

/-- return -/
def sRet (φ : EM D) : SM := fun ρ => (φ ρ).bind fun d ρ => .ok (.rt d) ρ
theorem ss_ret (he : SE X Z Γ e φ t) (hk : Z.rk = .fz u := by rfl) (ht : t.le u = true := by rfl) (hw : Gx.le Γ Z.Γr = true := by rfl) (hX : Gx.le Γ Z.ΓX = true := by rfl) : SS X Z L Γ Γ' (.Return (some e) pos) (sRet φ) := PS.imp (ps_ret he) fun D σ H ⟨ρ, U, R, q⟩ =>
  ⟨ρ, U, R, SAft.ofA hX q fun d ρ1 v H1 R1 p1 q => q v σ H1 .refl (by
    unfold Rok
    rw [hk]
    exact ⟨R1.weak hw, p1.1.mono fun x z => .inl (z.imp (Gx.le_wr hw x) id), Ty.le_has ht p1.2⟩)⟩
theorem ss_retNone (hk : Z.rk = .fz u := by rfl) (ht : u.has .non := by exact rfl) (hw : Gx.le Γ Z.Γr = true := by rfl) : SS X Z L Γ Γ' (.Return none pos) (sRet (eC .non)) := PS.imp ps_retN fun D σ H ⟨ρ, U, R, q⟩ =>
  q .non σ H .refl (by
    unfold Rok
    rw [hk]
    exact ⟨R.weak hw, rfl, ht⟩)
theorem ss_retN (he : SN X Z Γ e φ t) (hk : Z.rk = .nw u := by rfl) (ht : t.le u = true := by rfl) (hw : Gx.le Γ Z.Γr = true := by rfl) (hX : Gx.le Γ Z.ΓX = true := by rfl) : SS X Z L Γ Γ' (.Return (some e) pos) (sRet φ) := PS.imp (ps_ret he) fun D σ H ⟨ρ, U, R, q⟩ => by
  refine ⟨ρ, U, R, ?_⟩
  unfold sRet at q
  revert q
  cases φ ρ with
  | bad => exact fun q => q
  | exc c p ρ' => exact fun q cls od H1 e R xr => q cls od σ H1 ⟨e, fun _ _ _ => rfl⟩ (fun x z => .inl (Gx.le_wr hX x z)) R xr
  | ok d ρ' =>
    intro q p H' e1 hp R1 o1 td
    refine q (.ref p) σ H' ⟨e1, fun _ _ _ => rfl⟩ ?_
    unfold Rok
    rw [hk]
    exact ⟨p, rfl, .inr hp, R1.weak hw, o1.mono fun x z => .inl (z.imp (Gx.le_wr hw x) id), Ty.le_has ht td⟩
/-- return of a slot's own -/
theorem ss_retO {i : Nat} (he : PE X e (tVar i)) (hi : Γ[i]? = some (.own t) := by rfl) (hk : Z.rk = .nw u := by rfl) (ht : t.le u = true := by rfl) (hr : Z.Γr[i]? = some .un := by rfl) (hw : Gx.le Γ Z.Γr = true := by rfl) : SS X Z L Γ Γ' (.Return (some e) pos) (sRet (eVar i)) := PS.imp (ps_ret he) fun D σ H ⟨ρ, U, R, q⟩ => by
  obtain ⟨d, a, h1, h2, h3, h4, h5⟩ := R.own i t hi
  have hd : (sRet (eVar i)) ρ = .ok (.rt d) ρ := by
    show VL.R.ok (Fl.rt (ρ.getD i .non)) ρ = _
    rw [getD_of h1]
  rw [hd] at q
  refine ⟨.ref a, h2, q (.ref a) σ H .refl ?_⟩
  unfold Rok
  rw [hk]
  have Rw := R.weak hw
  have ne : ∀ (j : Nat) (u' : Ty) (b : Addr), Z.Γr[j]? = some (.own u') → σ[j]? = some (some (.ref b)) → b ≠ a := fun j u' b e1 e2 z => by
    subst z
    obtain ⟨c, hc, q2⟩ := Gx.le_at hw e1
    cases c with
    | un => cases q2
    | fz _ => cases q2
    | own w =>
      have := R.inj i j t w b hi hc h2 e2
      subst this
      rw [hr] at e1
      cases e1
  have sub : ∀ x, Wa Z.Γr σ (UN U a) x → Wa Γ σ U x := fun x z => z.elim (fun z => .inl (Gx.le_wr hw x z)) fun z => z.elim .inr fun z => .inl ⟨i, t, hi, by rw [z]; exact h2⟩
  refine ⟨a, rfl, .inl ⟨i, t, hi, h2⟩, ⟨Rw.len, Rw.glen, fun j u' e1 => ?_, fun j u' e1 => ?_, Rw.inj, fun x z => z.elim (R.trk x) fun z => by rw [z]; exact h3.there⟩, h3.mono fun x z => .inl (sub x z), Ty.le_has ht h4⟩
  · obtain ⟨c, hc, q2⟩ := Gx.le_at hw e1
    cases c with
    | un => cases q2
    | fz w =>
      obtain ⟨d', v', k1, k2, k3, k4⟩ := R.fz j w hc
      exact ⟨d', v', k1, k2, k3.mono fun x z => .inl (sub x z), Ty.le_has q2 k4⟩
    | own w =>
      obtain ⟨d', b, k1, k2, k3, k4, k5⟩ := R.own j w hc
      refine ⟨d', .ref b, k1, k2, k3.fz (fun z => ?_) (fun x z => .inl (sub x z)), Ty.le_has q2 k4⟩
      rcases z with ⟨k, w', z1, z2⟩ | z | z
      · obtain ⟨c', hc', q3⟩ := Gx.le_at hw z1
        cases c' with
        | un => cases q3
        | fz _ => cases q3
        | own w2 =>
          have := R.inj j k w w2 b hc hc' k2 z2
          subst this
          rw [e1] at z1
          cases z1
      · exact k5 z
      · have := R.inj i j t w a hi hc h2 (by rw [← z]; exact k2)
        subst this
        rw [hr] at e1
        cases e1
  · obtain ⟨d', b, k1, k2, k3, k4, k5⟩ := Rw.own j u' e1
    obtain ⟨c, hc, q2⟩ := Gx.le_at hw e1
    cases c with
    | un => cases q2
    | fz _ => cases q2
    | own w =>
      obtain ⟨d2, b2, l1, l2, l3, l4, l5⟩ := R.own j w hc
      rw [k1] at l1
      rw [k2] at l2
      cases l1
      cases l2
      exact ⟨d', b, k1, k2, l3.mono fun x z => .inl (sub x z), k4, fun z => z.elim k5 (ne j u' b e1 k2)⟩

/-- if -/
def sIf (ψ : EM Bool) (β γ : SM) : SM := fun ρ => (ψ ρ).bind fun b ρ => if b = true then β ρ else γ ρ
theorem ss_if {c : Expr} {a b : List Stmt} (hc : ST X Z Γ c ψ) (ha : SSs X Z L Γ Γ' a β) (hb : SSs X Z L Γ Γ' b γ) (hX : Gx.le Γ Z.ΓX = true := by rfl) : SS X Z L Γ Γ' (.If c a b pos) (sIf ψ β γ) := PS.imp (ps_if hc ha hb) fun D σ H ⟨ρ, U, R, q⟩ =>
  ⟨ρ, U, R, SAft.ofA hX q fun k ρ1 k' H1 R1 p1 q => by
    have p1' : k = k' := p1
    subst p1'
    cases k with
    | true => exact ⟨ρ1, U, R1, q⟩
    | false => exact ⟨ρ1, U, R1, q⟩⟩
/-- an expression alone -/
def sDo (φ : EM D) : SM := fun ρ => (φ ρ).bind fun _ ρ => .ok .nx ρ
theorem ss_expr (he : SE X Z Γ e φ t) (hX : Gx.le Γ Z.ΓX = true := by rfl) (hs : swapsWith e none pos.line X.env = pure false := by rfl) : SS X Z L Γ Γ (.Expr e pos) (sDo φ) := PS.imp (ps_expr he hs) fun D σ H ⟨ρ, U, R, q⟩ =>
  ⟨ρ, U, R, SAft.ofA hX q fun d ρ1 v H1 R1 p1 q => q σ H1 .refl (fun _ z => .inl z) R1⟩
/-- while -/
def sWhile (ψ : EM Bool) (β : SM) : Nat → SM
  | 0, _ => .bad
  | n + 1, ρ => (ψ ρ).bind fun b ρ => if b = true then (β ρ).bind fun f ρ => match f with
      | .nx => sWhile ψ β n ρ
      | .ct => sWhile ψ β n ρ
      | .bk => .ok .nx ρ
      | .rt d => .ok (.rt d) ρ
    else .ok .nx ρ
theorem ss_while {c : Expr} {body : List Stmt} {n : Nat} (hp : PassesOwn (model X.prog X.w) X.A X.env X.xe) (hc : ST X Z Γ c ψ) (hb : SSs X Z ⟨Γ, Γ⟩ Γ Γ body β) (hX : Gx.le Γ Z.ΓX = true := by rfl) : SS X Z L Γ Γ (.While c body [] pos) (sWhile ψ β n) := PS.imp (ps_while hp hc hb) fun D σ H ⟨ρ, U, R, q⟩ => by
  refine ⟨fun m σ H => ∃ ρ, Rel Z.K Γ U ρ σ H ∧ SAft Z L Γ Γ σ H U D (sWhile ψ β m ρ), ⟨n, ρ, R, q⟩, fun m σ1 H1 ⟨ρ1, R1, q1⟩ => ?_⟩
  cases m with
  | zero => exact q1.elim
  | succ m =>
    refine ⟨ρ1, U, R1, SAft.ofA hX q1 fun k ρ2 k' H2 R2 p2 q2 => ?_⟩
    have p2' : k = k' := p2
    subst p2'
    cases k with
    | false => exact q2 σ1 H2 .refl (fun _ z => .inl z) R2
    | true =>
      refine ⟨fun σ H => ∃ ρ, Rel Z.K Γ U ρ σ H ∧ SAft Z L Γ Γ σ H U D (sWhile ψ β m ρ), fun σ' H' h => ⟨m, Nat.lt_succ_self m, h⟩, ρ2, U, R2, ?_⟩
      have q2' : SAft Z L Γ Γ σ1 H2 U D ((β ρ2).bind fun f ρ => match f with
        | .nx => sWhile ψ β m ρ
        | .ct => sWhile ψ β m ρ
        | .bk => .ok .nx ρ
        | .rt d => .ok (.rt d) ρ) := q2
      revert q2'
      cases β ρ2 with
      | bad => exact fun q => q
      | exc c p ρ' => exact fun q => q
      | ok f ρ' =>
        cases f with
        | nx => exact fun q σ' H' a n R' => ⟨ρ', R', SAft.later q a n⟩
        | ct => exact fun q σ' H' a n R' => ⟨ρ', R', SAft.later q a n⟩
        | bk => exact fun q => q
        | rt d => exact fun q => q
end
end VL
/-! VL5: targets, walks, for, comprehensions. -/
namespace VL
open PySem L2

/-! ### targets -/
inductive TP where
  | nm (i : Nat) | pr (l : List TP)
mutual
def TP.bind : TP → D → List D → Option (List D)
  | .nm i, d, ρ => some (ρ.set i d)
  | .pr l, .tup ds, ρ => TP.bindL l ds ρ
  | .pr _, _, _ => none
def TP.bindL : List TP → List D → List D → Option (List D)
  | [], [], ρ => some ρ
  | t :: l, d :: ds, ρ => (t.bind d ρ).bind fun ρ => TP.bindL l ds ρ
  | [], _ :: _, _ => none
  | _ :: _, [], _ => none
end
mutual
def TP.ctx : TP → Ty → Gx → Gx
  | .nm i, t, Γ => Γ.set i (.fz t)
  | .pr l, .T ts, Γ => TP.ctxL l ts Γ
  | .pr l, .im, Γ => TP.ctxI .im l Γ
  | .pr l, _, Γ => TP.ctxI .any l Γ
def TP.ctxL : List TP → List Ty → Gx → Gx
  | t :: l, u :: us, Γ => TP.ctxL l us (t.ctx u Γ)
  | [], _, Γ => Γ
  | t :: l, [], Γ => TP.ctxL l [] (t.ctx .any Γ)
def TP.ctxI (u : Ty) : List TP → Gx → Gx
  | t :: l, Γ => TP.ctxI u l (t.ctx u Γ)
  | [], Γ => Γ
end
mutual
def TP.slots : TP → List Nat
  | .nm i => [i]
  | .pr l => TP.slotsL l
def TP.slotsL : List TP → List Nat
  | [] => []
  | t :: l => t.slots ++ TP.slotsL l
end
/-- what a target does -/
structure GOk (Z : Zx) (Γ : Gx) (U : AS) (ρ2 : List D) (σ : L2.St) (H : Hp) (tp : TP) (Γt : Gx) (σ2 : L2.St) : Prop where
  rel : Rel Z.K Γt U ρ2 σ2 H
  wr : ∀ x, Wr Γt σ2 x → Wr Γ σ x
  out : ∀ i, i ∉ tp.slots → σ2[i]? = σ[i]?
  len : σ2.length = σ.length
def GS (Z : Zx) (tp : TP) (g : TG) : Prop := ∀ (Γ : Gx) (U : AS) (ρ ρ2 : List D) (σ : L2.St) (H : Hp) (d : D) (v : V) (u : Ty) (Q : L2.St → Hp → Prop), Rel Z.K Γ U ρ σ H → Fz Z.K H (Wa Γ σ U) d v → u.has d → tp.bind d ρ = some ρ2 →
  (∀ σ2, GOk Z Γ U ρ2 σ H tp (tp.ctx u Γ) σ2 → Q σ2 H) → g v σ H Q
structure GSx (X : Cx) (Z : Zx) (tp : TP) (tg : Expr) (g : TG) : Prop where
  pg : PG X tg g
  gs : GS Z tp g
theorem gs_name {X : Cx} {Z : Zx} {i : Nat} {x : Str} {pos : Pos} (h : PG X (.Name x pos) (gName i)) : GSx X Z (.nm i) (.Name x pos) (gName i) := ⟨h, fun Γ U ρ ρ2 σ H d v u Q R f hu hb k => by
  have e : ρ.set i d = ρ2 := Option.some.inj hb
  subst e
  exact k _ ⟨R.set i f hu, wr_set_fz (fun _ z => by cases z), fun j hj => by
    rw [List.getElem?_set_ne (fun z => hj (by rw [z]; exact List.mem_singleton.mpr rfl))], by rw [List.length_set]⟩⟩
def GSs (Z : Zx) (l : List TP) (g : TGs) : Prop := ∀ (Γ : Gx) (U : AS) (ρ ρ2 : List D) (σ : L2.St) (H : Hp) (ds : List D) (vs : List V) (us : Option (List Ty)) (w : Ty) (Q : L2.St → Hp → Prop), Rel Z.K Γ U ρ σ H → FzL Z.K H (Wa Γ σ U) ds vs →
  (∀ ts, us = some ts → Ty.hasL ts ds) → (us = none → ∀ d ∈ ds, w.has d) → TP.bindL l ds ρ = some ρ2 →
  (∀ σ2, GOk Z Γ U ρ2 σ H (.pr l) (match us with | some ts => TP.ctxL l ts Γ | none => TP.ctxI w l Γ) σ2 → Q σ2 H) → g vs σ H Q
structure GSsx (X : Cx) (Z : Zx) (l : List TP) (tgs : List Expr) (g : TGs) : Prop where
  pg : PGs X tgs g
  gs : GSs Z l g
theorem gss_nil {X : Cx} {Z : Zx} : GSsx X Z [] [] gNil := ⟨pgs_nil, fun Γ U ρ ρ2 σ H ds vs us w Q R f h1 h2 hb k => by
  cases ds with
  | cons d r => cases hb
  | nil =>
    have e : ρ = ρ2 := Option.some.inj hb
    subst e
    refine ⟨f, k σ ⟨?_, ?_, fun _ _ => rfl, rfl⟩⟩
    · cases us <;> exact R
    · cases us <;> exact fun _ z => z⟩
theorem gss_cons {X : Cx} {Z : Zx} {tp : TP} {l : List TP} {e : Expr} {es : List Expr} {g : TG} {gs : TGs} (h : GSx X Z tp e g) (r : GSsx X Z l es gs)
    (hs : (assignEach (e :: es) X.env).map (·.2) = assign e X.env :: (assignEach es X.env).map (·.2) := by rfl) : GSsx X Z (tp :: l) (e :: es) (gCons g gs) := ⟨pgs_cons h.pg r.pg hs, fun Γ U ρ ρ2 σ H ds vs us w Q R f h1 h2 hb k => by
  cases ds with
  | nil => cases hb
  | cons d ds =>
    obtain ⟨v, vr, rfl, f1, f2⟩ := f
    have hb' : (tp.bind d ρ).bind (fun ρ => TP.bindL l ds ρ) = some ρ2 := hb
    cases e1 : tp.bind d ρ with
    | none => rw [e1] at hb'; cases hb'
    | some ρ1 =>
      rw [e1] at hb'
      have hb2 : TP.bindL l ds ρ1 = some ρ2 := hb'
      refine ⟨v, vr, rfl, ?_⟩
      have fin : ∀ (u : Ty) (us' : Option (List Ty)), u.has d → (∀ ts, us' = some ts → Ty.hasL ts ds) → (us' = none → ∀ d ∈ ds, w.has d) →
          (match us with | some ts => TP.ctxL (tp :: l) ts Γ | none => TP.ctxI w (tp :: l) Γ) = (match us' with | some ts => TP.ctxL l ts (tp.ctx u Γ) | none => TP.ctxI w l (tp.ctx u Γ)) →
          g v σ H fun σ' H' => gs vr σ' H' Q := fun u us' hu k1 k2 ec => h.gs Γ U ρ ρ1 σ H d v u _ R f1 hu e1 fun σ1 o1 => r.gs (tp.ctx u Γ) U ρ1 ρ2 σ1 H ds vr us' w _ o1.rel
            (FzL.mono (fun x z => .inl (z.imp (o1.wr x) id)) f2) k1 k2 hb2 fun σ2 o2 => k σ2 ⟨by rw [ec]; exact o2.rel, fun x z => o1.wr x (o2.wr x (by rw [ec] at z; exact z)), fun i hi => by
              have hi' : i ∉ tp.slots ++ TP.slotsL l := hi
              rw [List.mem_append] at hi'
              exact (o2.out i fun z => hi' (.inr z)).trans (o1.out i fun z => hi' (.inl z)), o2.len.trans o1.len⟩
      cases us with
      | none => exact fin w none (h2 rfl d List.mem_cons_self) (fun _ z => by cases z) (fun _ x hx => h2 rfl x (List.mem_cons_of_mem _ hx)) rfl
      | some ts =>
        have hh := h1 ts rfl
        cases ts with
        | nil => exact absurd (show d :: ds = [] from hh) (by simp)
        | cons t ts =>
          obtain ⟨d', r', e', q1, q2⟩ := hh
          cases e'
          exact fin t (some ts) q1 (fun _ z => by cases z; exact q2) (fun z => by cases z) rfl⟩
theorem gs_tup {X : Cx} {Z : Zx} {l : List TP} {es : List Expr} {k : Nat} {g : TGs} {n : Nat} {pos : Pos} (hK : Z.K = X.K) (hc : X.calm = true) (h : GSsx X Z l es g)
    (hn : (assignEach es X.env).length = n := by rfl) (hst : (assignEach es X.env).findIdx? (·.1) = none := by rfl) (hl : l.length = n := by rfl) : GSx X Z (.pr l) (.Tuple es k pos) (gTup X.K n g) := ⟨pg_tup hc h.pg hn hst, fun Γ U ρ ρ2 σ H d v u Q R f hu hb k => by
  cases d with
  | tup ds =>
    obtain ⟨a, xs, rfl, ha, fl⟩ := f
    have len : ∀ {l : List TP} {ds ρ ρ2 : List D}, TP.bindL l ds ρ = some ρ2 → ds.length = l.length := by
      intro l
      induction l with
      | nil =>
        intro ds ρ ρ2 h
        cases ds with
        | nil => rfl
        | cons _ _ => cases h
      | cons t l ih =>
        intro ds ρ ρ2 h
        cases ds with
        | nil => cases h
        | cons d ds =>
          have h' : (t.bind d ρ).bind (fun ρ => TP.bindL l ds ρ) = some ρ2 := h
          cases e : t.bind d ρ with
          | none => rw [e] at h'; cases h'
          | some ρ1 =>
            rw [e] at h'
            rw [List.length_cons, List.length_cons, ih h']
    have hb' : TP.bindL l ds ρ = some ρ2 := hb
    refine ⟨a, xs, rfl, hK ▸ ha.sq, by rw [← fl.length, len hb', hl], ?_⟩
    cases u with
    | im => exact h.gs Γ U ρ ρ2 σ H ds xs none .im Q R fl (fun _ z => by cases z) (fun _ x hx => immL_mem (show D.immL ds = true from hu) hx) hb' k
    | any => exact h.gs Γ U ρ ρ2 σ H ds xs none .any Q R fl (fun _ z => by cases z) (fun _ _ _ => trivial) hb' k
    | L t => exact h.gs Γ U ρ ρ2 σ H ds xs none .any Q R fl (fun _ z => by cases z) (fun _ _ _ => trivial) hb' k
    | M t => exact h.gs Γ U ρ ρ2 σ H ds xs none .any Q R fl (fun _ z => by cases z) (fun _ _ _ => trivial) hb' k
    | T ts =>
      obtain ⟨ds', e', hh⟩ := hu
      cases e'
      exact h.gs Γ U ρ ρ2 σ H ds xs (some ts) .any Q R fl (fun _ z => by cases z; exact hh) (fun z => by cases z) hb' k
  | _ => cases hb⟩
/-! target = value -/
section
variable {X : Cx} {Z : Zx} {L : Lp} {Γ Γ' : Gx} {e : Expr} {φ : EM D} {t u : Ty} {pos : Pos}
def sUnp (tp : TP) (φ : EM D) : SM := fun ρ => (φ ρ).bind fun d ρ => match tp.bind d ρ with
  | some ρ => .ok .nx ρ
  | none => .bad
def TP.free (tp : TP) (Γr : Gx) : Bool := tp.slots.all fun i => match Γr[i]? with
  | some (.own _) => false
  | _ => true
theorem TP.free_ne {tp : TP} {Γr : Gx} (h : tp.free Γr = true) {i : Nat} {t : Ty} (e : Γr[i]? = some (.own t)) : i ∉ tp.slots := fun z => by
  have := List.all_eq_true.mp h i z
  rw [e] at this
  cases this
theorem ss_unp {tp : TP} {g : TG} {tg : Expr} (hg : GSx X Z tp tg g) (he : SE X Z Γ e φ t) (hX : Gx.le Γ Z.ΓX = true := by rfl) (hr : tp.free Z.Γr = true := by rfl)
    (hs : swapsWithSole [tg] e pos.line X.env = pure false := by rfl) (hw : swappedStores [tg] e X.env = pure none := by rfl) (h1 : (assignEach [tg] X.env).map (·.2) = [assign tg X.env] := by rfl) :
    SS X Z L Γ (tp.ctx t Γ) (.Assign [tg] e pos) (sUnp tp φ) := PS.imp (ps_asg he hg.pg hs hw h1) fun D σ H ⟨ρ, U, R, q⟩ =>
  ⟨ρ, U, R, SAft.ofA hX q fun d ρ1 v H1 R1 p1 q => by
    cases hb : tp.bind d ρ1 with
    | none =>
      rw [hb] at q
      exact q.elim
    | some ρ2 =>
      rw [hb] at q
      exact hg.gs Γ U ρ1 ρ2 σ H1 d v t _ R1 p1.1 p1.2 hb fun σ2 o => q σ2 H1 ⟨.refl, fun i t e => o.out i (TP.free_ne hr e)⟩ (fun x z => .inl (o.wr x z)) o.rel⟩
end

/-! ### walks -/
/-- the walk J goes through ds -/
def ItOk (Z : Zx) (W W0 : AS) (J : It) (ds : List D) (u : Ty) (H0 : Hp) : Prop := ∃ (G : Hp → Prop) (Y : Nat → Hp → V → Hp → Prop), Walk J ds.length G Y ∧ (∀ H, Ext H0 W0 H → G H) ∧ (∀ d ∈ ds, u.has d) ∧
  ∀ i H x H' W', Ext H0 W0 H → (∀ y, W' y → W y ∨ H0 y = none) → Y i H x H' → Ext H (fun _ => False) H' ∧ ∃ d, ds[i]? = some d ∧ Fz Z.K H' W' d x
def AftI (Z : Zx) (Γ : Gx) (u : Ty) (σ : L2.St) (H : Hp) (U : AS) (Rr : It → Hp → Prop) : R (List D) → Prop
  | .ok ds ρ' => ∀ J H', Ext H (Wr Γ σ) H' → Rel Z.K Γ U ρ' σ H' → ItOk Z (Wa Γ σ U) (Wr Γ σ) J ds u H' → Rr J H'
  | .exc c p ρ' => ∀ cls od H', Ext H (Wr Γ σ) H' → Rel Z.K Z.ΓX U ρ' σ H' → Z.XR c p cls od H' → Z.E cls od σ H'
  | .bad => False
def TIof (Z : Zx) (Γ : Gx) (φ : EM (List D)) (u : Ty) : TI := fun σ H Rr => ∃ ρ U, Rel Z.K Γ U ρ σ H ∧ AftI Z Γ u σ H U Rr (φ ρ)
abbrev SI (X : Cx) (Z : Zx) (Γ : Gx) (tg e : Expr) (φ : EM (List D)) (u : Ty) : Prop := PI X tg e (TIof Z Γ φ u)
section
variable {X : Cx} {Z : Zx} {L : Lp} {Γ Γ' Γt : Gx} {e tg : Expr} {φ : EM D} {t u : Ty} {pos : Pos}
theorem PI.imp {w w' : TI} (h : PI X tg e w) (k : ∀ σ H Rr, w' σ H Rr → w σ H Rr) : PI X tg e w' := ⟨fun pins s σ H Rr I q => h.run pins s σ H Rr I (k σ H Rr q)⟩
/-- from an expression's value to its walk -/
theorem AftI.bind {α β : Type} {P : α → β → L2.St → Hp → AS → Prop} {σ : L2.St} {H : Hp} {U : AS} {Rr : It → Hp → Prop} {Q' : β → Hp → Prop} {x : R α} {f : α → List D → R (List D)} (q : AftI Z Γ u σ H U Rr (x.bind f))
    (k : ∀ a ρ1 y H1, Ext H (Wr Γ σ) H1 → Rel Z.K Γ U ρ1 σ H1 → P a y σ H1 (Wa Γ σ U) → AftI Z Γ u σ H1 U Rr (f a ρ1) → Q' y H1) : Aft Z Γ P σ H U Q' x := by
  cases x with
  | bad => exact q
  | exc c p ρ' => exact q
  | ok a ρ' => exact fun y H' e' R' p' => k a ρ' y H' e' R' p' (by
      have q' : AftI Z Γ u σ H U Rr (f a ρ') := q
      revert q'
      cases f a ρ' with
      | bad => exact fun q => q
      | exc c p ρ2 => exact fun q cls od H2 e2 => q cls od H2 (e'.trans e2)
      | ok ds ρ2 => exact fun q J H2 e2 => q J H2 (e'.trans e2))
def elems : Ty → Ty
  | .im => .im
  | .L t => t
  | _ => .any
/-- the parts of a list, a tuple -/
def dSeq (d : D) (ρ : List D) : R (List D) := match d with
  | .lst ds => .ok ds ρ
  | .tup ds => .ok ds ρ
  | _ => .bad
def dLst (d : D) (ρ : List D) : R (List D) := match d with
  | .lst ds => .ok ds ρ
  | _ => .bad
def dTup (d : D) (ρ : List D) : R (List D) := match d with
  | .tup ds => .ok ds ρ
  | _ => .bad
def eItL (φ : EM D) : EM (List D) := fun ρ => (φ ρ).bind dLst
def eItT (φ : EM D) : EM (List D) := fun ρ => (φ ρ).bind dTup
theorem elems_has {d : D} {ds : List D} (h : t.has d) (e : d = .lst ds ∨ (d = .tup ds ∧ t = .im)) : ∀ x ∈ ds, (elems t).has x := fun x hx => by
  rcases e with e | ⟨e, e2⟩
  · subst e
    cases t with
    | im => cases h
    | any => trivial
    | L t =>
      obtain ⟨ds', e', h'⟩ := h
      cases e'
      exact h' x hx
    | M t => trivial
    | T ts => trivial
  · subst e
    subst e2
    exact immL_mem (show D.immL ds = true from h) hx
theorem it_list {σ : L2.St} {H : Hp} {U : AS} {a : Addr} {ds : List D} {xs : List V} (h : LstAt Z.K H (Wa Γ σ U) a xs) (f : FzL Z.K H (Wa Γ σ U) ds xs) (hu : ∀ d ∈ ds, u.has d) : ItOk Z (Wa Γ σ U) (Wr Γ σ) (Itl Z.K a) ds u H := by
  refine ⟨_, _, by rw [f.length]; exact walk_list (xs := xs), fun H' e => (h.ext (fun x z => .inl z) e).sq, hu, fun i H1 x H2 W' e hw y => ?_⟩
  obtain ⟨e2, hx⟩ := y
  subst e2
  obtain ⟨d, hd, fd⟩ := f.getV hx
  exact ⟨.refl, d, hd, fd.ext2 (fun x z => .inl z) e hw⟩
theorem it_tup {σ : L2.St} {H : Hp} {U : AS} {a : Addr} {ds : List D} {xs : List V} (h : TupAt Z.K H a xs) (f : FzL Z.K H (Wa Γ σ U) ds xs) (hu : ∀ d ∈ ds, u.has d) : ItOk Z (Wa Γ σ U) (Wr Γ σ) (Itt Z.K a) ds u H := by
  refine ⟨_, _, by rw [f.length]; exact walk_tup (xs := xs), fun H' e => (h.ext e).sq, hu, fun i H1 x H2 W' e hw y => ?_⟩
  obtain ⟨e2, hx⟩ := y
  subst e2
  obtain ⟨d, hd, fd⟩ := f.getV hx
  exact ⟨.refl, d, hd, fd.ext2 (fun x z => .inl z) e hw⟩
theorem si_list (hK : Z.K = X.K) (h : SE X Z Γ e φ t) : SI X Z Γ tg e (eItL φ) (elems t) := PI.imp (pi_list h) fun σ H Rr ⟨ρ, U, R, q⟩ =>
  ⟨ρ, U, R, AftI.bind q fun d ρ1 v H1 e1 R1 p1 q => by
    cases d with
    | lst ds =>
      obtain ⟨a, xs, rfl, ha, fl⟩ := p1.1
      exact ⟨a, rfl, ⟨xs, hK ▸ ha.sq⟩, q _ H1 .refl R1 (hK ▸ it_list ha fl (elems_has p1.2 (.inl rfl)))⟩
    | _ => exact q.elim⟩
theorem si_tup (hK : Z.K = X.K) (h : SE X Z Γ e φ .im) : SI X Z Γ tg e (eItT φ) .im := PI.imp (pi_tup h) fun σ H Rr ⟨ρ, U, R, q⟩ =>
  ⟨ρ, U, R, AftI.bind q fun d ρ1 v H1 e1 R1 p1 q => by
    cases d with
    | tup ds =>
      obtain ⟨a, xs, rfl, ha, fl⟩ := p1.1
      exact ⟨a, rfl, ⟨xs, hK ▸ ha.sq⟩, q _ H1 .refl R1 (hK ▸ it_tup ha fl (elems_has (t := .im) p1.2 (.inr ⟨rfl, rfl⟩)))⟩
    | _ => exact q.elim⟩
/-- a text's signs -/
def signs (z : Str) : List D := z.cps.toList.map fun c => .str ⟨#[c]⟩
def dStr (d : D) (ρ : List D) : R (List D) := match d with
  | .str z => .ok (signs z) ρ
  | _ => .bad
def eItS (φ : EM D) : EM (List D) := fun ρ => (φ ρ).bind dStr
theorem si_str (h : SE X Z Γ e φ t) : SI X Z Γ tg e (eItS φ) .im := PI.imp (pi_str h) fun σ H Rr ⟨ρ, U, R, q⟩ =>
  ⟨ρ, U, R, AftI.bind q fun d ρ1 v H1 e1 R1 p1 q => by
    cases d with
    | str z =>
      refine ⟨z, p1.1, q _ H1 .refl R1 ⟨_, _, by rw [show (signs z).length = z.cps.size by simp [signs]]; exact walk_str (z := z), fun _ _ => trivial, fun d hd => ?_, fun i H2 x H3 W' e2 hw y => ?_⟩⟩
      · obtain ⟨c, _, rfl⟩ := List.mem_map.mp hd
        rfl
      · obtain ⟨e3, c, hc, rfl⟩ := y
        subst e3
        refine ⟨.refl, .str ⟨#[c]⟩, ?_, rfl⟩
        unfold signs
        rw [List.getElem?_map, Array.getElem?_toList, hc]
        rfl
    | _ => exact q.elim⟩

/-! ### for -/
def sForL (tp : TP) (β : SM) : List D → List D → R Fl
  | [], ρ => .ok .nx ρ
  | d :: ds, ρ => match tp.bind d ρ with
    | none => .bad
    | some ρ => (β ρ).bind fun f ρ => match f with
      | .nx => sForL tp β ds ρ
      | .ct => sForL tp β ds ρ
      | .bk => .ok .nx ρ
      | .rt d => .ok (.rt d) ρ
def sFor (φ : EM (List D)) (tp : TP) (β : SM) : SM := fun ρ => (φ ρ).bind (sForL tp β)
theorem sForL_core {tp : TP} {β : SM} {g : TG} {σ : L2.St} {H : Hp} {U : AS} {D : Ends} {J : It} {ds : List VL.D} {ρ : List VL.D} (hr : tp.free Z.Γr = true) (hg : GS Z tp g) (it : ItOk Z (Wa Γ σ U) (Wr Γ σ) J ds u H) (R : Rel Z.K Γ U ρ σ H)
    (q : SAft Z L Γ Γ σ H U D (sForL tp β ds ρ)) :
    ∃ W : Nat → Nat → L2.St → Hp → Prop, (∃ m, W 0 m σ H) ∧ ∀ i m σ H, W i m σ H →
      (J.stop i H ∧ D.nx σ H) ∨ (J.go i H ∧ ∃ N : L2.St → Hp → Prop, (∀ σ' H', N σ' H' → ∃ m', m' < m ∧ W (i + 1) m' σ' H') ∧ ∀ x H', J.yld i H x H' → g x σ H' fun σ2 H2 => Sof Z ⟨Γ, Γ⟩ (tp.ctx u Γ) Γ β { D with nx := N, ct := N, bk := D.nx } σ2 H2) := by
  obtain ⟨G, Y, w, hG, hu, hY⟩ := it
  refine for_it w (fun i σ' H' => Stp Z Γ σ H σ' H' ∧ Nw Γ σ H Γ σ' ∧ ∃ ρ', Rel Z.K Γ U ρ' σ' H' ∧ SAft Z L Γ Γ σ' H' U D (sForL tp β (ds.drop i) ρ'))
    ⟨.refl, fun _ z => .inl z, ρ, R, by rw [List.drop_zero]; exact q⟩ (fun i σ' H' _ p => hG H' p.1.ext) (fun i x σ' H1 H2 hi p y => ?_) (fun σ' H' p => ?_)
  · obtain ⟨st, nw, ρ', R', q'⟩ := p
    obtain ⟨e2, d, hd, fd⟩ := hY i H1 x H2 (Wa Γ σ' U) st.ext (fun y z => z.elim (fun z => (nw y z).imp .inl id) fun z => .inl (.inr z)) y
    have hdr : ds.drop i = d :: ds.drop (i + 1) := by
      rw [List.drop_eq_getElem_cons hi]
      congr 1
      rw [List.getElem?_eq_getElem hi] at hd
      exact Option.some.inj hd
    rw [hdr] at q'
    have q2 : SAft Z L Γ Γ σ' H1 U D (match tp.bind d ρ' with
      | none => .bad
      | some ρ => (β ρ).bind fun f ρ => match f with
        | .nx => sForL tp β (ds.drop (i + 1)) ρ
        | .ct => sForL tp β (ds.drop (i + 1)) ρ
        | .bk => .ok .nx ρ
        | .rt d => .ok (.rt d) ρ) := q'
    cases hb : tp.bind d ρ' with
    | none =>
      rw [hb] at q2
      exact q2.elim
    | some ρ2 =>
      rw [hb] at q2
      refine hg Γ U ρ' ρ2 σ' H2 d x u _ (R'.same e2) fd (hu d (List.mem_of_getElem? hd)) hb fun σ2 o => ⟨ρ2, U, o.rel, ?_⟩
      have s2 : Stp Z Γ σ' H1 σ2 H2 := ⟨ext_mono e2, fun i t e => o.out i (TP.free_ne hr e)⟩
      have n2 : Nw Γ σ' H1 (tp.ctx u Γ) σ2 := fun y z => .inl (o.wr y z)
      have q3 := SAft.later q2 s2 n2
      revert q3
      show SAft Z L (tp.ctx u Γ) Γ σ2 H2 U D ((β ρ2).bind fun f ρ => match f with
        | .nx => sForL tp β (ds.drop (i + 1)) ρ
        | .ct => sForL tp β (ds.drop (i + 1)) ρ
        | .bk => .ok .nx ρ
        | .rt d => .ok (.rt d) ρ) → _
      have back : ∀ {σ3 : L2.St} {H3 : Hp}, Stp Z (tp.ctx u Γ) σ2 H2 σ3 H3 → Nw (tp.ctx u Γ) σ2 H2 Γ σ3 → Stp Z Γ σ H σ3 H3 ∧ Nw Γ σ H Γ σ3 := fun a n =>
        ⟨st.trans nw (s2.trans n2 a), Nw.trans st nw (Nw.trans s2 n2 n)⟩
      cases β ρ2 with
      | bad => exact fun q => q
      | exc c p ρ' => exact fun q => q
      | ok f ρ' =>
        cases f with
        | nx => exact fun q σ3 H3 a n R3 => ⟨(back a n).1, (back a n).2, ρ', R3, SAft.later q a n⟩
        | ct => exact fun q σ3 H3 a n R3 => ⟨(back a n).1, (back a n).2, ρ', R3, SAft.later q a n⟩
        | bk => exact fun q => q
        | rt d => exact fun q => q
  · obtain ⟨st, nw, ρ', R', q'⟩ := p
    rw [List.drop_length] at q'
    exact q' σ' H' .refl (fun _ z => .inl z) R'
theorem ss_for {iter : Expr} {body : List Stmt} {tp : TP} {g : TG} {β : SM} {χ : EM (List VL.D)} (hp : PassesOwn (model X.prog X.w) X.A X.env X.xe) (hc : X.calm = true) (hi : SI X Z Γ tg iter χ u) (hg : GSx X Z tp tg g)
    (hb : SSs X Z ⟨Γ, Γ⟩ (tp.ctx u Γ) Γ body β) (hX : Gx.le Γ Z.ΓX = true := by rfl) (hr : tp.free Z.Γr = true := by rfl) (hs : ∀ x, foldedSetIterable iter X.env x = pure x := by intro _; rfl) :
    SS X Z L Γ Γ (.For tg iter body [] pos) (sFor χ tp β) := PS.imp (ps_for hp hc hi hg.pg hb hs) fun D σ H ⟨ρ, U, R, q⟩ => by
  refine ⟨ρ, U, R, ?_⟩
  unfold sFor at q
  revert q
  cases χ ρ with
  | bad => exact fun q => q
  | exc c p ρ1 => exact fun q cls od H1 e R xr => q cls od σ H1 ⟨e, fun _ _ _ => rfl⟩ (fun x z => .inl (Gx.le_wr hX x z)) R xr
  | ok ds ρ1 => exact fun q J H1 e1 R1 it => sForL_core hr hg.gs it R1 (SAft.later q ⟨e1, fun _ _ _ => rfl⟩ fun _ z => .inl z)
end
end VL
/-! VL6: arguments, displays, calls, defs. -/
namespace VL
open PySem L2

inductive AK where
  | v (t : Ty) | b (i : Nat) | o (i : Nat)
def AK.P (K : PySem.W.Frag) : AK → PF
  | .v t => Pf K t
  | .b i => Ps i
  | .o i => Ps i
def Pa (K : PySem.W.Frag) : List AK → List D → List V → L2.St → Hp → AS → Prop
  | [], ds, vs, _, _, _ => ds = [] ∧ vs = []
  | k :: ks, ds, vs, σ, H, W => ∃ d r v s, ds = d :: r ∧ vs = v :: s ∧ k.P K d v σ H W ∧ Pa K ks r s σ H W
abbrev SA (X : Cx) (Z : Zx) (Γ : Gx) (es : List Expr) (φ : EM (List D)) (ks : List AK) : Prop := PA X es (Tof Z Γ φ (Pa Z.K ks))
def eNil : EM (List D) := fun ρ => .ok [] ρ
def eCons (φ : EM D) (ψ : EM (List D)) : EM (List D) := fun ρ => (φ ρ).bind fun d ρ => (ψ ρ).bind fun ds ρ => .ok (d :: ds) ρ
section
variable {X : Cx} {Z : Zx} {L : Lp} {Γ Γ' : Gx} {e : Expr} {es : List Expr} {φ : EM D} {ψ : EM (List D)} {t u : Ty} {pos : Pos} {ks : List AK} {k : AK}
theorem AK.keep {d : D} {v : V} {σ : L2.St} {H H' : Hp} {U : AS} (h : k.P Z.K d v σ H (Wa Γ σ U)) (e : Ext H (Wr Γ σ) H') : k.P Z.K d v σ H' (Wa Γ σ U) := by
  cases k with
  | v t => exact ⟨Fz.ext (fun _ z => .inl z) e h.1, h.2⟩
  | b i => exact h
  | o i => exact h
theorem Pa.keep {σ : L2.St} {H H' : Hp} {U : AS} (e : Ext H (Wr Γ σ) H') : ∀ {ks : List AK} {ds : List D} {vs : List V}, Pa Z.K ks ds vs σ H (Wa Γ σ U) → Pa Z.K ks ds vs σ H' (Wa Γ σ U)
  | [], _, _, h => h
  | _ :: _, _, _, ⟨d, r, v, s, h1, h2, h3, h4⟩ => ⟨d, r, v, s, h1, h2, AK.keep h3 e, Pa.keep e h4⟩
theorem Pa.len {K : PySem.W.Frag} {σ : L2.St} {H : Hp} {W : AS} : ∀ {ks : List AK} {ds : List D} {vs : List V}, Pa K ks ds vs σ H W → vs.length = ks.length ∧ ds.length = ks.length
  | [], _, _, ⟨h1, h2⟩ => by rw [h1, h2]; exact ⟨rfl, rfl⟩
  | _ :: _, _, _, ⟨d, r, v, s, h1, h2, h3, h4⟩ => by rw [h1, h2, List.length_cons, List.length_cons, List.length_cons, h4.len.1, h4.len.2]; exact ⟨rfl, rfl⟩
theorem sa_nil : SA X Z Γ [] eNil [] := PA.imp pa_nil fun σ H Q ⟨ρ, U, R, q⟩ => q [] H .refl R ⟨rfl, rfl⟩
theorem sa_cons' (he : PE X e (Tof Z Γ φ (k.P Z.K))) (hr : SA X Z Γ es ψ ks) (hs : starEach (e :: es) X.env = (false, eval e X.env) :: starEach es X.env := by rfl) : SA X Z Γ (e :: es) (eCons φ ψ) (k :: ks) := PA.imp (pa_cons he hr hs) fun σ H Q ⟨ρ, U, R, q⟩ =>
  ⟨ρ, U, R, Aft.bind q fun d ρ1 v H1 e1 R1 p1 q => ⟨ρ1, U, R1, Aft.bind q fun ds ρ2 vs H2 e2 R2 p2 q => q _ H2 .refl R2 ⟨d, ds, v, vs, rfl, rfl, AK.keep p1 e2, p2⟩⟩⟩
theorem sa_cons (he : SE X Z Γ e φ t) (hr : SA X Z Γ es ψ ks) (hs : starEach (e :: es) X.env = (false, eval e X.env) :: starEach es X.env := by rfl) : SA X Z Γ (e :: es) (eCons φ ψ) (.v t :: ks) := sa_cons' (k := .v t) he hr hs
theorem sa_b {i : Nat} (he : SO X Z Γ e eSl (.s i)) (hr : SA X Z Γ es ψ ks) (hs : starEach (e :: es) X.env = (false, eval e X.env) :: starEach es X.env := by rfl) : SA X Z Γ (e :: es) (eCons eSl ψ) (.b i :: ks) := sa_cons' (k := .b i) he hr hs
theorem sa_o {i : Nat} (he : SO X Z Γ e eSl (.s i)) (hr : SA X Z Γ es ψ ks) (hs : starEach (e :: es) X.env = (false, eval e X.env) :: starEach es X.env := by rfl) : SA X Z Γ (e :: es) (eCons eSl ψ) (.o i :: ks) := sa_cons' (k := .o i) he hr hs

/-! ### displays -/
def AK.tys : List AK → List Ty
  | [] => []
  | .v t :: r => t :: AK.tys r
  | _ :: r => .any :: AK.tys r
def AK.allV : List AK → Bool
  | [] => true
  | .v _ :: r => AK.allV r
  | _ :: _ => false
theorem Pa.fz {K : PySem.W.Frag} {σ : L2.St} {H : Hp} {W : AS} : ∀ {ks : List AK} {ds : List D} {vs : List V}, AK.allV ks = true → Pa K ks ds vs σ H W → FzL K H W ds vs ∧ Ty.hasL (AK.tys ks) ds
  | [], _, _, _, ⟨h1, h2⟩ => by rw [h1, h2]; exact ⟨rfl, rfl⟩
  | .v t :: ks, _, _, h, ⟨d, r, v, s, h1, h2, h3, h4⟩ => by
    obtain ⟨q1, q2⟩ := Pa.fz (ks := ks) h h4
    exact ⟨by rw [h1, h2]; exact ⟨v, s, rfl, h3.1, q1⟩, by rw [h1]; exact ⟨d, r, rfl, h3.2, q2⟩⟩
  | .b _ :: _, _, _, h, _ => by cases h
  | .o _ :: _, _, _, h, _ => by cases h
theorem small_line {n : Nat} (h : n ≤ 1000) : n ≤ sizeLine := Nat.le_trans h (by decide)
def eTup (ψ : EM (List D)) : EM D := fun ρ => (ψ ρ).bind fun ds ρ => .ok (.tup ds) ρ
theorem se_tup {x1} (ha : SA X Z Γ es ψ ks) (hv : AK.allV ks = true := by rfl) (ht : (Ty.T (AK.tys ks)).le t = true := by rfl) (hl : ks.length ≤ 1000 := by decide) : SE X Z Γ (.Tuple es x1 pos) (eTup ψ) t := PE.imp (pe_tup ha) fun σ H Q ⟨ρ, U, R, q⟩ =>
  ⟨ρ, U, R, Aft.bind q fun ds ρ1 vs H1 e1 R1 p1 q => by
    obtain ⟨f, hh⟩ := Pa.fz hv p1
    refine ⟨by rw [p1.len.1]; exact small_line hl, fun p hp => ?_⟩
    have e2 : Ext H1 (fun _ => False) (upd H1 p (.tup vs)) := Ext.new hp
    exact q (.ref p) _ (ext_mono e2) (R1.same e2) ⟨⟨p, vs, rfl, .inl upd_same, FzL.ext (fun _ z => z.elim) e2 f⟩, Ty.le_has ht ⟨ds, rfl, hh⟩⟩⟩
theorem AftN.bind {α β : Type} {P : α → β → L2.St → Hp → AS → Prop} {σ : L2.St} {H : Hp} {U : AS} {Q : VK} {Q' : β → Hp → Prop} {x : R α} {f : α → List D → R D} (q : AftN Z Γ t σ H U Q (x.bind f))
    (k : ∀ a ρ1 y H1, Ext H (Wr Γ σ) H1 → Rel Z.K Γ U ρ1 σ H1 → P a y σ H1 (Wa Γ σ U) → AftN Z Γ t σ H1 U Q (f a ρ1) → Q' y H1) : Aft Z Γ P σ H U Q' x := by
  cases x with
  | bad => exact q
  | exc c p ρ' => exact q
  | ok a ρ' => exact fun y H' e' R' p' => k a ρ' y H' e' R' p' (AftN.later q e')
def eLst (ψ : EM (List D)) : EM D := fun ρ => (ψ ρ).bind fun ds ρ => .ok (.lst ds) ρ
def Ty.allLe (ts : List Ty) (t : Ty) : Bool := ts.all fun u => u.le t
theorem allLe_has {t : Ty} : ∀ {ts : List Ty} {ds : List D}, Ty.allLe ts t = true → Ty.hasL ts ds → ∀ d ∈ ds, t.has d
  | [], ds, _, h, d, hd => by rw [show ds = [] from h] at hd; cases hd
  | u :: ts, ds, q, ⟨d', r, e, h1, h2⟩, d, hd => by
    have q' : (u.le t && Ty.allLe ts t) = true := by unfold Ty.allLe at q ⊢; rw [List.all_cons] at q; exact q
    rw [Bool.and_eq_true] at q'
    rw [e] at hd
    rcases List.mem_cons.mp hd with z | z
    · rw [z]; exact Ty.le_has q'.1 h1
    · exact allLe_has q'.2 h2 d z
/-- a new list whose parts are at hand -/
theorem own_new {K : PySem.W.Frag} {σ : L2.St} {H : Hp} {U : AS} {ds : List D} {vs : List V} {p : Addr} {ρ : List D} (R : Rel K Γ U ρ σ H) (hp : H p = none) (f : FzL K H (Wa Γ σ U) ds vs) : Own K (upd H p (.lst vs)) (Wa Γ σ (UN U p)) (.lst ds) p :=
  .inl ⟨ds, vs, rfl, upd_same, FzL.ext (fun _ z => z.elim) (Ext.new (W := fun _ => False) hp) (f.mono fun x z => z.elim (fun z => .inl (.inl z)) fun z => z.elim (fun z => .inl (.inr z)) fun z => .inr (by rw [z]; exact hp))⟩
theorem sn_lst (ha : SA X Z Γ es ψ ks) (hv : AK.allV ks = true := by rfl) (ht : Ty.allLe (AK.tys ks) t = true := by rfl) (hl : ks.length ≤ 1000 := by decide) : SN X Z Γ (.List es pos) (eLst ψ) (.L t) := PE.imp (pe_lst ha) fun σ H Q ⟨ρ, U, R, q⟩ =>
  ⟨ρ, U, R, AftN.bind q fun ds ρ1 vs H1 e1 R1 p1 q => by
    obtain ⟨f, hh⟩ := Pa.fz hv p1
    refine ⟨by rw [p1.len.1]; exact small_line hl, fun p hp => ?_⟩
    exact q p _ (Ext.new hp) hp (R1.new hp) (own_new R1 hp f) ⟨ds, rfl, allLe_has ht hh⟩⟩

/-! ### what a def promises -/
def ioG (sg : Gx) : Gx := sg.map fun s => match s with
  | .own t => .own t
  | _ => .un
def SpA (K : PySem.W.Frag) (XR : Str → D → Value → Option Addr → Hp → Prop) (sg : Gx) (rk : RK) (vs : List V) (H : Hp) (U : AS) (Q : VK) (E : XK) : R D → Prop
  | .ok d outs => ∀ v H', Ext H (Wr sg (vs.map some)) H' → (match rk with
      | .fz t => Rel K (ioG sg) U outs (vs.map some) H' ∧ Fz K H' (Wa (ioG sg) (vs.map some) U) d v ∧ t.has d
      | .nw t => ∃ p, v = .ref p ∧ H p = none ∧ Rel K (ioG sg) (UN U p) outs (vs.map some) H' ∧ Own K H' (Wa (ioG sg) (vs.map some) (UN U p)) d p ∧ t.has d
      | .no t => (v = .non ∧ d = .non ∧ Rel K (ioG sg) U outs (vs.map some) H') ∨ ∃ p, v = .ref p ∧ H p = none ∧ Rel K (ioG sg) (UN U p) outs (vs.map some) H' ∧ Own K H' (Wa (ioG sg) (vs.map some) (UN U p)) d p ∧ t.has d) → Q v H'
  | .exc c p outs => ∀ cls od H', Ext H (Wr sg (vs.map some)) H' → Rel K (ioG sg) U outs (vs.map some) H' → XR c p cls od H' → E cls od H'
  | .bad => False
def spF (K : PySem.W.Frag) (XR : Str → D → Value → Option Addr → Hp → Prop) (sg : Gx) (rk : RK) (m : List D → R D) : Sp := fun vs H Q E => ∃ ds U, vs.length = sg.length ∧ Rel K sg U ds (vs.map some) H ∧ SpA K XR sg rk vs H U Q E (m ds)
/-- the def as a function of its arguments, by its body; fall: it may end without a return -/
def mkF (fall : Bool) (n k : Nat) (β : SM) : List D → R D := fun ds => match β (ds ++ List.replicate (n - k) .non) with
  | .ok (.rt d) ρ => .ok d (ρ.take k)
  | .ok .nx ρ => if fall = true then .ok .non (ρ.take k) else .bad
  | .exc c p ρ => .exc c p (ρ.take k)
  | _ => .bad
def padG (sg : Gx) (n : Nat) : Gx := sg ++ List.replicate (n - sg.length) .un
theorem padG_at {sg : Gx} {n i : Nat} {s : Slot} (h : (padG sg n)[i]? = some s) (hs : s ≠ .un) : sg[i]? = some s ∧ i < sg.length := by
  unfold padG at h
  by_cases hi : i < sg.length
  · rw [List.getElem?_append_left hi] at h
    exact ⟨h, hi⟩
  · rw [List.getElem?_append_right (by omega), List.getElem?_replicate] at h
    split at h
    · exact absurd (Option.some.inj h).symm hs
    · cases h
theorem padG_of {sg : Gx} {n i : Nat} {s : Slot} (h : sg[i]? = some s) : (padG sg n)[i]? = some s := by
  unfold padG
  rw [List.getElem?_append_left (List.getElem?_eq_some_iff.mp h).1]
  exact h
theorem start_at {N : List Str} {vs : List V} {i : Nat} (hi : i < vs.length) : (L2.start N vs)[i]? = (vs.map some)[i]? := by
  unfold L2.start
  rw [List.getElem?_append_left (by rw [List.length_map]; exact hi)]
theorem ioG_at {sg : Gx} {i : Nat} {t : Ty} : (ioG sg)[i]? = some (.own t) ↔ sg[i]? = some (.own t) := by
  unfold ioG
  rw [List.getElem?_map]
  cases h : sg[i]? with
  | none => simp
  | some s => cases s <;> simp
theorem ioG_fz {sg : Gx} {i : Nat} {t : Ty} (h : (ioG sg)[i]? = some (.fz t)) : False := by
  unfold ioG at h
  rw [List.getElem?_map] at h
  cases e : sg[i]? with
  | none => rw [e] at h; simp at h
  | some s => rw [e] at h; cases s <;> simp at h
theorem rel_start {K : PySem.W.Frag} {sg : Gx} {U : AS} {ds : List D} {vs : List V} {H : Hp} {N : List Str} (hl : vs.length = sg.length) (hN : sg.length ≤ N.length) (R : Rel K sg U ds (vs.map some) H) :
    Rel K (padG sg N.length) U (ds ++ List.replicate (N.length - sg.length) .non) (L2.start N vs) H ∧ ∀ x, Wr (padG sg N.length) (L2.start N vs) x ↔ Wr sg (vs.map some) x := by
  have ld : ds.length = sg.length := by rw [R.len, List.length_map]; exact hl
  have wr : ∀ x, Wr (padG sg N.length) (L2.start N vs) x ↔ Wr sg (vs.map some) x := fun x => ⟨fun ⟨i, t, h1, h2⟩ => by
    obtain ⟨q1, q2⟩ := padG_at h1 (by simp)
    exact ⟨i, t, q1, by rw [← start_at (N := N) (by rw [hl]; exact q2)]; exact h2⟩, fun ⟨i, t, h1, h2⟩ => ⟨i, t, padG_of h1, by rw [start_at (by rw [hl]; exact (List.getElem?_eq_some_iff.mp h1).1)]; exact h2⟩⟩
  have wa : ∀ x, Wa (padG sg N.length) (L2.start N vs) U x → Wa sg (vs.map some) U x := fun x z => z.imp (wr x).mp id
  have da : ∀ {i : Nat}, i < sg.length → (ds ++ List.replicate (N.length - sg.length) D.non)[i]? = ds[i]? := fun {i} hi => List.getElem?_append_left (by rw [ld]; exact hi)
  refine ⟨⟨?_, ?_, fun i t h => ?_, fun i t h => ?_, fun i j t u a h1 h2 h3 h4 => ?_, R.trk⟩, wr⟩
  · unfold L2.start
    simp only [List.length_append, List.length_replicate, List.length_map]
    omega
  · unfold L2.start padG
    simp only [List.length_append, List.length_replicate, List.length_map]
    omega
  · obtain ⟨q1, q2⟩ := padG_at h (by simp)
    obtain ⟨d, v, k1, k2, k3, k4⟩ := R.fz i t q1
    exact ⟨d, v, by rw [da q2]; exact k1, by rw [start_at (by omega)]; exact k2, k3.mono fun x z => .inl (wa x z), k4⟩
  · obtain ⟨q1, q2⟩ := padG_at h (by simp)
    obtain ⟨d, v, k1, k2, k3, k4, k5⟩ := R.own i t q1
    exact ⟨d, v, by rw [da q2]; exact k1, by rw [start_at (by omega)]; exact k2, k3.mono fun x z => .inl (wa x z), k4, k5⟩
  · obtain ⟨q1, l1⟩ := padG_at h1 (by simp)
    obtain ⟨q2, l2⟩ := padG_at h2 (by simp)
    rw [start_at (by omega)] at h3 h4
    exact R.inj i j t u a q1 q2 h3 h4
/-- back at the caller: the slots that were lent -/
theorem rel_end {K : PySem.W.Frag} {sg : Gx} {U : AS} {ρ : List D} {vs : List V} {H : Hp} {N : List Str} {σ : L2.St} (hl : vs.length = sg.length) (hN : sg.length ≤ N.length) (R : Rel K (padG (ioG sg) N.length) U ρ σ H)
    (io : ∀ (i : Nat) (t : Ty), (padG (ioG sg) N.length)[i]? = some (.own t) → σ[i]? = (L2.start N vs)[i]?) : Rel K (ioG sg) U (ρ.take sg.length) (vs.map some) H ∧ ∀ x, Wr (ioG sg) (vs.map some) x → Wr (padG (ioG sg) N.length) σ x := by
  have li : (ioG sg).length = sg.length := by unfold ioG; rw [List.length_map]
  have at' : ∀ {i : Nat} {t : Ty}, (ioG sg)[i]? = some (.own t) → i < sg.length ∧ σ[i]? = (vs.map some)[i]? := fun {i t} h => by
    have q : i < sg.length := by rw [← li]; exact (List.getElem?_eq_some_iff.mp h).1
    exact ⟨q, by rw [io i t (padG_of h), start_at (by omega)]⟩
  have wr : ∀ x, Wr (ioG sg) (vs.map some) x → Wr (padG (ioG sg) N.length) σ x := fun x ⟨i, t, h1, h2⟩ => ⟨i, t, padG_of h1, by rw [(at' h1).2]; exact h2⟩
  have wa : ∀ x, Wa (ioG sg) (vs.map some) U x → Wa (padG (ioG sg) N.length) σ U x := fun x z => z.imp (wr x) id
  have lr : ρ.length = N.length := by
    rw [R.len, ← R.glen]
    unfold padG
    rw [List.length_append, List.length_replicate, li]
    omega
  refine ⟨⟨by rw [List.length_take, lr, List.length_map, hl]; omega, by rw [li, List.length_map, hl], fun i t h => (ioG_fz h).elim, fun i t h => ?_, fun i j t u a h1 h2 h3 h4 => ?_, R.trk⟩, wr⟩
  · obtain ⟨d, a, k1, k2, k3, k4, k5⟩ := R.own i t (padG_of h)
    exact ⟨d, a, by rw [List.getElem?_take_of_lt (at' h).1]; exact k1, by rw [← (at' h).2]; exact k2, k3.mono fun x z => .inl (wa x z), k4, k5⟩
  · rw [← (at' h1).2] at h3
    rw [← (at' h2).2] at h4
    exact R.inj i j t u a (padG_of h1) (padG_of h2) h3 h4
def RK.non : RK → Bool
  | .fz .im => true
  | .fz .any => true
  | _ => false
/-- a def's body does what it promises -/
theorem def_core {K : PySem.W.Frag} {XR : Str → D → Value → Option Addr → Hp → Prop} {sg : Gx} {rk : RK} {N : List Str} {fall : Bool} {β : SM} {vs : List V} {H : Hp} {Q : VK} {E : XK} {L : Lp} (hN : sg.length ≤ N.length) (hf : (!fall || rk.non) = true)
    (h : spF K XR sg rk (mkF fall N.length sg.length β) vs H Q E) :
    Sof ⟨K, XR, fun cls od _ H => E cls od H, padG (ioG sg) N.length, padG (ioG sg) N.length, rk⟩ L (padG sg N.length) (padG (ioG sg) N.length) β { nx := fun _ H' => Q .non H', rt := Q } (L2.start N vs) H := by
  obtain ⟨ds, U, hl, R, q⟩ := h
  obtain ⟨R0, wr⟩ := rel_start hl hN R
  refine ⟨_, U, R0, ?_⟩
  unfold mkF at q
  have ex : ∀ {H' : Hp}, Ext H (Wr (padG sg N.length) (L2.start N vs)) H' → Ext H (Wr sg (vs.map some)) H' := fun e => e.mono fun x z => (wr x).mp z
  revert q
  cases β (ds ++ List.replicate (N.length - sg.length) D.non) with
  | bad => exact fun q => q.elim
  | exc c p ρ => exact fun q cls od σ' H' st nw R' xr => q cls od H' (ex st.ext) (rel_end hl hN R' st.io).1 xr
  | ok f ρ =>
    cases f with
    | bk => exact fun q => q.elim
    | ct => exact fun q => q.elim
    | nx =>
      cases fall with
      | false => exact fun q => q.elim
      | true =>
        intro q σ' H' st nw R'
        cases rk with
        | fz t => exact q .non H' (ex st.ext) ⟨(rel_end hl hN R' st.io).1, rfl, by cases t <;> first | exact rfl | trivial | cases hf⟩
        | nw t => cases hf
        | no t => cases hf
    | rt d =>
      intro q v σ' H' st r
      refine q v H' (ex st.ext) ?_
      cases rk with
      | fz t =>
        obtain ⟨R', f', hd⟩ := r
        obtain ⟨R2, wr2⟩ := rel_end hl hN R' st.io
        exact ⟨R2, f'.mono fun x z => .inl (z.imp (wr2 x) id), hd⟩
      | nw t =>
        obtain ⟨p, e, hp, R', o', hd⟩ := r
        obtain ⟨R2, wr2⟩ := rel_end hl hN R' st.io
        refine ⟨p, e, hp.elim (fun z => ?_) id, R2, o'.mono fun x z => .inl (z.imp (wr2 x) id), hd⟩
        obtain ⟨i, t', h1, h2⟩ := (wr p).mp z
        have : Wr (ioG sg) (vs.map some) p := ⟨i, t', ioG_at.mpr h1, h2⟩
        exact absurd (Or.inr rfl : UN U p p) (R2.wr this).2
      | no t =>
        rcases r with ⟨e1, e2, R'⟩ | ⟨p, e, hp, R', o', hd⟩
        · exact .inl ⟨e1, e2, (rel_end hl hN R' st.io).1⟩
        · obtain ⟨R2, wr2⟩ := rel_end hl hN R' st.io
          refine .inr ⟨p, e, hp.elim (fun z => ?_) id, R2, o'.mono fun x z => .inl (z.imp (wr2 x) id), hd⟩
          obtain ⟨i, t', h1, h2⟩ := (wr p).mp z
          have : Wr (ioG sg) (vs.map some) p := ⟨i, t', ioG_at.mpr h1, h2⟩
          exact absurd (Or.inr rfl : UN U p p) (R2.wr this).2
end
end VL
/-! VL7: calls. -/
namespace VL
open PySem L2

def AK.res : AK → D → List D → D
  | .v _, d, _ => d
  | .b i, _, ρ => ρ.getD i .non
  | .o i, _, ρ => ρ.getD i .non
def AK.resL : List AK → List D → List D → List D
  | k :: ks, d :: ds, ρ => k.res d ρ :: AK.resL ks ds ρ
  | _, _, _ => []
/-- what was lent comes back -/
def AK.back : List AK → List D → List D → List D
  | .o i :: ks, d :: ds, ρ => AK.back ks ds (ρ.set i d)
  | _ :: ks, _ :: ds, ρ => AK.back ks ds ρ
  | _, _, ρ => ρ
def AK.fit1 (Γ : Gx) : AK → Slot → Bool
  | .v t, .fz u => t.le u
  | .b i, .fz u => match Γ[i]? with
    | some (.own t) => t.le u
    | _ => false
  | .o i, .own u => match Γ[i]? with
    | some (.own t) => t.le u && u.le t
    | _ => false
  | _, _ => false
/-- the arguments fit; what is left are defaults -/
def AK.fit (Γ : Gx) : List AK → Gx → Bool
  | k :: ks, s :: sg => k.fit1 Γ s && AK.fit Γ ks sg
  | [], sg => sg.all fun s => match s with
    | .fz u => Ty.im.le u
    | _ => false
  | _ :: _, [] => false
def AK.ob : List AK → List Nat
  | .o i :: ks => i :: AK.ob ks
  | .b i :: ks => AK.ob ks
  | .v _ :: ks => AK.ob ks
  | [] => []
def AK.bs : List AK → List Nat
  | .b i :: ks => i :: AK.bs ks
  | .o _ :: ks => AK.bs ks
  | .v _ :: ks => AK.bs ks
  | [] => []
/-- no slot is lent twice -/
def AK.once (ks : List AK) : Bool := decide (AK.ob ks).Nodup && (AK.bs ks).all fun i => !(AK.ob ks).contains i
def Ty.flat : Ty → Bool
  | .L .im => true
  | .M .im => true
  | _ => false
def RK.flat : RK → Bool
  | .fz .im => true
  | .nw t => t.flat
  | .no t => t.flat
  | _ => false
def Gx.flat (sg : Gx) : Bool := sg.all fun s => match s with
  | .own t => t.flat
  | _ => true
/-- what is only read is kept apart from what is handed back -/
def AK.apart (ks : List AK) (sg : Gx) (rk : RK) : Bool := (AK.bs ks).isEmpty || (Gx.flat sg && rk.flat)
def eCall (m : List D → R D) (ks : List AK) (dds : List D) (ψ : EM (List D)) : EM D := fun ρ => (ψ ρ).bind fun ds ρ => match m (AK.resL ks ds ρ ++ dds) with
  | .ok d outs => .ok d (AK.back ks outs ρ)
  | .exc c p outs => .exc c p (AK.back ks outs ρ)
  | .bad => .bad

section
variable {K : PySem.W.Frag} {H H' : Hp} {U U' W W' : AS} {Γ : Gx} {ρ : List D} {σ : L2.St} {d : D} {v : V} {a p : Addr} {t : Ty} {ks : List AK} {ds : List D} {vs : List V} {sg : Gx}
theorem FzL.immW' : ∀ {ds : List D} {vs : List V}, (∀ d ∈ ds, d.imm = true) → FzL K H W ds vs → FzL K H W' ds vs
  | [], _, _, h => h
  | d :: ds, _, q, ⟨v, r, h1, h2, h3⟩ => ⟨v, r, h1, Fz.immW (q d List.mem_cons_self) h2, FzL.immW' (fun x hx => q x (List.mem_cons_of_mem _ hx)) h3⟩
theorem FzM.immW' : ∀ {ds : List (Key × D)} {vs : List (Key × V)}, (∀ d ∈ ds, d.2.imm = true) → FzM K H W ds vs → FzM K H W' ds vs
  | [], _, _, h => h
  | (k, d) :: ds, _, q, ⟨v, r, h1, h2, h3⟩ => ⟨v, r, h1, Fz.immW (q (k, d) List.mem_cons_self) h2, FzM.immW' (fun x hx => q x (List.mem_cons_of_mem _ hx)) h3⟩
theorem Own.flat (hf : t.flat = true) (ht : t.has d) (h : Own K H W d a) : Own K H W' d a := by
  cases t with
  | im => cases hf
  | any => cases hf
  | T _ => cases hf
  | L u =>
    cases u <;> first | cases hf | skip
    obtain ⟨ds, e, hh⟩ := ht
    rcases h with ⟨es, xs, e2, h2, h3⟩ | ⟨es, xs, e2, h2, h3⟩
    · rw [e] at e2
      cases e2
      exact .inl ⟨ds, xs, e, h2, h3.immW' hh⟩
    · rw [e] at e2
      cases e2
  | M u =>
    cases u <;> first | cases hf | skip
    obtain ⟨ds, e, hh⟩ := ht
    rcases h with ⟨es, xs, e2, h2, h3⟩ | ⟨es, xs, e2, h2, h3⟩
    · rw [e] at e2
      cases e2
    · rw [e] at e2
      cases e2
      exact .inr ⟨ds, xs, e, h2, h3.immW' hh⟩
/-- the arguments by places -/
theorem Pa.at : ∀ {ks : List AK} {ds : List D} {vs : List V} {j : Nat} {k : AK}, Pa K ks ds vs σ H W → ks[j]? = some k → ∃ d v, ds[j]? = some d ∧ vs[j]? = some v ∧ k.P K d v σ H W ∧ ∀ ρ, (AK.resL ks ds ρ)[j]? = some (k.res d ρ)
  | [], _, _, _, _, _, e => by simp at e
  | k :: ks, _, _, 0, k', ⟨d, r, v, s, h1, h2, h3, h4⟩, e => by
    have e' : k = k' := by simpa using e
    subst e'
    rw [h1, h2]
    exact ⟨d, v, rfl, rfl, h3, fun _ => rfl⟩
  | k :: ks, _, _, j + 1, k', ⟨d, r, v, s, h1, h2, h3, h4⟩, e => by
    obtain ⟨d', v', q1, q2, q3, q4⟩ := Pa.at (j := j) (k := k') h4 (by simpa using e)
    rw [h1, h2]
    exact ⟨d', v', by simpa using q1, by simpa using q2, q3, fun ρ => by
      show (k.res d ρ :: AK.resL ks r ρ)[j + 1]? = _
      rw [List.getElem?_cons_succ]
      exact q4 ρ⟩
theorem Pa.resLen : ∀ {ks : List AK} {ds : List D} {vs : List V}, Pa K ks ds vs σ H W → ∀ ρ, (AK.resL ks ds ρ).length = ks.length
  | [], _, _, _, _ => rfl
  | k :: ks, _, _, ⟨d, r, v, s, h1, h2, h3, h4⟩, ρ => by
    rw [h1]
    show (k.res d ρ :: AK.resL ks r ρ).length = _
    rw [List.length_cons, List.length_cons, Pa.resLen h4]
theorem AK.fit_at : ∀ {ks : List AK} {sg : Gx} {j : Nat} {s : Slot}, AK.fit Γ ks sg = true → sg[j]? = some s → (∃ k, ks[j]? = some k ∧ k.fit1 Γ s = true) ∨ (ks.length ≤ j ∧ ∃ u, s = .fz u ∧ Ty.im.le u = true)
  | [], sg, j, s, h, e => by
    have := List.all_eq_true.mp (show (sg.all fun s => match s with | .fz u => Ty.im.le u | _ => false) = true from h) s (List.mem_of_getElem? e)
    cases s with
    | un => cases this
    | own _ => cases this
    | fz u => exact .inr ⟨Nat.zero_le _, u, rfl, this⟩
  | _ :: _, [], _, _, h, _ => by cases h
  | k :: ks, s :: sg, 0, s', h, e => by
    have h' : (k.fit1 Γ s && AK.fit Γ ks sg) = true := h
    rw [Bool.and_eq_true] at h'
    have e' : s = s' := by simpa using e
    subst e'
    exact .inl ⟨k, rfl, h'.1⟩
  | k :: ks, s :: sg, j + 1, s', h, e => by
    have h' : (k.fit1 Γ s && AK.fit Γ ks sg) = true := h
    rw [Bool.and_eq_true] at h'
    rcases AK.fit_at (j := j) (s := s') h'.2 (by simpa using e) with ⟨k', q1, q2⟩ | ⟨q1, q2⟩
    · exact .inl ⟨k', by simpa using q1, q2⟩
    · exact .inr ⟨by rw [List.length_cons]; omega, q2⟩
theorem AK.ob_mem : ∀ {ks : List AK} {i : Nat}, i ∈ AK.ob ks ↔ ∃ j : Nat, ks[j]? = some (.o i)
  | [], i => by simp [AK.ob]
  | .o k :: ks, i => by
    show i ∈ k :: AK.ob ks ↔ _
    rw [List.mem_cons, AK.ob_mem]
    constructor
    · rintro (rfl | ⟨j, h⟩)
      · exact ⟨0, rfl⟩
      · exact ⟨j + 1, by simpa using h⟩
    · rintro ⟨j, h⟩
      cases j with
      | zero => simp at h; exact .inl h.symm
      | succ j => exact .inr ⟨j, by simpa using h⟩
  | .b k :: ks, i => by
    show i ∈ AK.ob ks ↔ _
    rw [AK.ob_mem]
    constructor
    · rintro ⟨j, h⟩; exact ⟨j + 1, by simpa using h⟩
    · rintro ⟨j, h⟩
      cases j with
      | zero => simp at h
      | succ j => exact ⟨j, by simpa using h⟩
  | .v k :: ks, i => by
    show i ∈ AK.ob ks ↔ _
    rw [AK.ob_mem]
    constructor
    · rintro ⟨j, h⟩; exact ⟨j + 1, by simpa using h⟩
    · rintro ⟨j, h⟩
      cases j with
      | zero => simp at h
      | succ j => exact ⟨j, by simpa using h⟩
theorem AK.bs_mem : ∀ {ks : List AK} {i : Nat}, i ∈ AK.bs ks ↔ ∃ j : Nat, ks[j]? = some (.b i)
  | [], i => by simp [AK.bs]
  | .b k :: ks, i => by
    show i ∈ k :: AK.bs ks ↔ _
    rw [List.mem_cons, AK.bs_mem]
    constructor
    · rintro (rfl | ⟨j, h⟩)
      · exact ⟨0, rfl⟩
      · exact ⟨j + 1, by simpa using h⟩
    · rintro ⟨j, h⟩
      cases j with
      | zero => simp at h; exact .inl h.symm
      | succ j => exact .inr ⟨j, by simpa using h⟩
  | .o k :: ks, i => by
    show i ∈ AK.bs ks ↔ _
    rw [AK.bs_mem]
    constructor
    · rintro ⟨j, h⟩; exact ⟨j + 1, by simpa using h⟩
    · rintro ⟨j, h⟩
      cases j with
      | zero => simp at h
      | succ j => exact ⟨j, by simpa using h⟩
  | .v k :: ks, i => by
    show i ∈ AK.bs ks ↔ _
    rw [AK.bs_mem]
    constructor
    · rintro ⟨j, h⟩; exact ⟨j + 1, by simpa using h⟩
    · rintro ⟨j, h⟩
      cases j with
      | zero => simp at h
      | succ j => exact ⟨j, by simpa using h⟩
theorem AK.ob_inj : ∀ {ks : List AK} {i j k : Nat}, (AK.ob ks).Nodup → ks[j]? = some (.o i) → ks[k]? = some (.o i) → j = k
  | [], _, _, _, _, h, _ => by simp at h
  | _ :: _, _, 0, 0, _, _, _ => rfl
  | x :: ks, i, 0, k + 1, nd, h1, h2 => by
    have e : x = .o i := by simpa using h1
    subst e
    have nd' : (i :: AK.ob ks).Nodup := nd
    exact absurd (AK.ob_mem.mpr ⟨k, by simpa using h2⟩) (List.nodup_cons.mp nd').1
  | x :: ks, i, j + 1, 0, nd, h1, h2 => by
    have e : x = .o i := by simpa using h2
    subst e
    have nd' : (i :: AK.ob ks).Nodup := nd
    exact absurd (AK.ob_mem.mpr ⟨j, by simpa using h1⟩) (List.nodup_cons.mp nd').1
  | x :: ks, i, j + 1, k + 1, nd, h1, h2 => by
    have nd' : (AK.ob ks).Nodup := by
      cases x with
      | o m => exact (List.nodup_cons.mp (show (m :: AK.ob ks).Nodup from nd)).2
      | b m => exact nd
      | v m => exact nd
    have := AK.ob_inj (i := i) (j := j) (k := k) nd' (by simpa using h1) (by simpa using h2)
    omega
theorem AK.back_len : ∀ {ks : List AK} {outs ρ : List D}, (AK.back ks outs ρ).length = ρ.length
  | [], _, _ => rfl
  | .o i :: ks, [], ρ => rfl
  | .b i :: ks, [], ρ => rfl
  | .v i :: ks, [], ρ => rfl
  | .o i :: ks, d :: ds, ρ => by
    show (AK.back ks ds (ρ.set i d)).length = _
    rw [AK.back_len, List.length_set]
  | .b i :: ks, d :: ds, ρ => AK.back_len (ks := ks)
  | .v i :: ks, d :: ds, ρ => AK.back_len (ks := ks)
theorem AK.back_out : ∀ {ks : List AK} {outs ρ : List D} {i : Nat}, i ∉ AK.ob ks → (AK.back ks outs ρ)[i]? = ρ[i]?
  | [], _, _, _, _ => rfl
  | .o k :: ks, [], ρ, _, _ => rfl
  | .b k :: ks, [], ρ, _, _ => rfl
  | .v k :: ks, [], ρ, _, _ => rfl
  | .o k :: ks, d :: ds, ρ, i, h => by
    have h' : i ∉ k :: AK.ob ks := h
    rw [List.mem_cons] at h'
    show (AK.back ks ds (ρ.set k d))[i]? = _
    rw [AK.back_out fun z => h' (.inr z), List.getElem?_set_ne fun z => h' (.inl z.symm)]
  | .b k :: ks, d :: ds, ρ, i, h => AK.back_out (ks := ks) h
  | .v k :: ks, d :: ds, ρ, i, h => AK.back_out (ks := ks) h
theorem AK.back_at : ∀ {ks : List AK} {outs ρ : List D} {i j : Nat} {d : D}, (AK.ob ks).Nodup → ks[j]? = some (.o i) → outs[j]? = some d → i < ρ.length → (AK.back ks outs ρ)[i]? = some d
  | [], _, _, _, _, _, _, h, _, _ => by simp at h
  | x :: ks, [], _, _, _, _, _, _, h, _ => by simp at h
  | x :: ks, o' :: outs, ρ, i, 0, d, nd, h1, h2, hl => by
    have e : x = .o i := by simpa using h1
    have e2 : o' = d := by simpa using h2
    subst e
    subst e2
    have nd' : (i :: AK.ob ks).Nodup := nd
    show (AK.back ks outs (ρ.set i o'))[i]? = _
    rw [AK.back_out (List.nodup_cons.mp nd').1, List.getElem?_set_self hl]
  | x :: ks, _ :: outs, ρ, i, j + 1, d, nd, h1, h2, hl => by
    have go : ∀ {ρ : List D}, i < ρ.length → (AK.ob ks).Nodup → (AK.back ks outs ρ)[i]? = some d := fun hl nd => AK.back_at (j := j) nd (by simpa using h1) (by simpa using h2) hl
    cases x with
    | o m => exact go (by rw [List.length_set]; exact hl) (List.nodup_cons.mp (show (m :: AK.ob ks).Nodup from nd)).2
    | b m => exact go hl nd
    | v m => exact go hl nd
/-- what a call lends -/
def Lent (ks : List AK) (σ : L2.St) : AS := fun a => ∃ i, (i ∈ AK.ob ks ∨ i ∈ AK.bs ks) ∧ σ[i]? = some (some (.ref a))
def Uc (ks : List AK) (Γ : Gx) (σ : L2.St) (U : AS) : AS := fun a => Wa Γ σ U a ∧ ¬ Lent ks σ a
variable {dds : List D} {dvs : List V}
theorem o_own (hf : AK.fit Γ ks sg = true) {j : Nat} {u : Ty} (h : sg[j]? = some (.own u)) : ∃ (i : Nat) (t : Ty), ks[j]? = some (.o i) ∧ Γ[i]? = some (.own t) ∧ t.le u = true ∧ u.le t = true := by
  rcases AK.fit_at hf h with ⟨k, h1, h2⟩ | ⟨_, _, e, _⟩
  · cases k with
    | v t => cases h2
    | b i => cases h2
    | o i =>
      have h2' : (match Γ[i]? with | some (.own t) => t.le u && u.le t | _ => false) = true := h2
      cases e : Γ[i]? with
      | none => rw [e] at h2'; cases h2'
      | some s =>
        rw [e] at h2'
        cases s with
        | un => cases h2'
        | fz _ => cases h2'
        | own t =>
          have h3 : (t.le u && u.le t) = true := h2'
          rw [Bool.and_eq_true] at h3
          exact ⟨i, t, h1, e, h3.1, h3.2⟩
  · cases e
theorem fit_len : ∀ {ks : List AK} {sg : Gx}, AK.fit Γ ks sg = true → ks.length ≤ sg.length
  | [], _, _ => Nat.zero_le _
  | _ :: _, [], h => by cases h
  | k :: ks, s :: sg, h => by
    have h' : (k.fit1 Γ s && AK.fit Γ ks sg) = true := h
    rw [Bool.and_eq_true] at h'
    rw [List.length_cons, List.length_cons]
    have := fit_len h'.2
    omega
/-- what a callee is given -/
theorem rel_call (R : Rel K Γ U ρ σ H) (pa : Pa K ks ds vs σ H (Wa Γ σ U)) (hf : AK.fit Γ ks sg = true) (ho : AK.once ks = true) (hl : ks.length + dds.length = sg.length) (hd : FzL K H (fun _ => False) dds dvs) (hdi : D.immL dds = true) :
    Rel K sg (Uc ks Γ σ U) (AK.resL ks ds ρ ++ dds) ((vs ++ dvs).map some) H ∧ ∀ x, Wr sg ((vs ++ dvs).map some) x ↔ ∃ i, i ∈ AK.ob ks ∧ σ[i]? = some (some (.ref x)) := by
  have ho' : (decide (AK.ob ks).Nodup && (AK.bs ks).all fun i => !(AK.ob ks).contains i) = true := ho
  rw [Bool.and_eq_true] at ho'
  have nd : (AK.ob ks).Nodup := of_decide_eq_true ho'.1
  have lv : vs.length = ks.length := pa.len.1
  have lr : (AK.resL ks ds ρ).length = ks.length := Pa.resLen pa ρ
  have ld : dds.length = dvs.length := hd.length
  have sat : ∀ {j : Nat} {v : V}, vs[j]? = some v → ((vs ++ dvs).map some)[j]? = some (some v) := fun {j v} h => by
    rw [List.getElem?_map, List.getElem?_append_left (List.getElem?_eq_some_iff.mp h).1, h]
    rfl
  have dat : ∀ {j : Nat} {d : D}, (AK.resL ks ds ρ)[j]? = some d → (AK.resL ks ds ρ ++ dds)[j]? = some d := fun {j d} h => by
    rw [List.getElem?_append_left (List.getElem?_eq_some_iff.mp h).1]
    exact h
  have wr : ∀ x, Wr sg ((vs ++ dvs).map some) x ↔ ∃ i, i ∈ AK.ob ks ∧ σ[i]? = some (some (.ref x)) := fun x => by
    constructor
    · rintro ⟨j, u, h1, h2⟩
      obtain ⟨i, t, k1, k2, k3, k4⟩ := o_own hf h1
      obtain ⟨d, v, q1, q2, q3, q4⟩ := Pa.at pa k1
      rw [sat q2] at h2
      cases h2
      exact ⟨i, AK.ob_mem.mpr ⟨j, k1⟩, q3⟩
    · rintro ⟨i, h1, h2⟩
      obtain ⟨j, hj⟩ := AK.ob_mem.mp h1
      obtain ⟨d, v, q1, q2, q3, q4⟩ := Pa.at pa hj
      have e : σ[i]? = some (some v) := q3
      rw [h2] at e
      cases e
      have lj : j < sg.length := Nat.lt_of_lt_of_le (List.getElem?_eq_some_iff.mp hj).1 (fit_len hf)
      rcases AK.fit_at hf (List.getElem?_eq_getElem lj) with ⟨k, k1, k2⟩ | ⟨k1, _⟩
      · rw [hj] at k1
        cases k1
        cases e : sg[j] with
        | un => rw [e] at k2; cases k2
        | fz _ => rw [e] at k2; cases k2
        | own u => exact ⟨j, u, by rw [List.getElem?_eq_getElem lj, e], sat q2⟩
      · have := (List.getElem?_eq_some_iff.mp hj).1
        omega
  have wsub : ∀ x, Wa sg ((vs ++ dvs).map some) (Uc ks Γ σ U) x → Wa Γ σ U x := fun x z => z.elim (fun z => by
    obtain ⟨j, u, h1, h2⟩ := z
    obtain ⟨i, t, k1, k2, k3, k4⟩ := o_own hf h1
    obtain ⟨d, v, q1, q2, q3, q4⟩ := Pa.at pa k1
    rw [sat q2] at h2
    cases h2
    exact .inl ⟨i, t, k2, q3⟩) fun z => z.1
  refine ⟨⟨?_, ?_, fun j u h => ?_, fun j u h => ?_, fun j k u u' a h1 h2 h3 h4 => ?_, fun a z => R.wa z.1⟩, wr⟩
  · rw [List.length_append, List.length_map, List.length_append, lr, lv, ld]
  · rw [List.length_map, List.length_append, lv, ← ld, hl]
  · rcases AK.fit_at hf h with ⟨k, h1, h2⟩ | ⟨h1, u', e, hu⟩
    · obtain ⟨d, v, q1, q2, q3, q4⟩ := Pa.at pa h1
      cases k with
      | v t =>
        have q3' : Pf K t d v σ H (Wa Γ σ U) := q3
        exact ⟨d, v, dat (q4 ρ), sat q2, q3'.1.mono fun x z => .inl (wsub x z), Ty.le_has h2 q3'.2⟩
      | o i => cases h2
      | b i =>
        have h2' : (match Γ[i]? with | some (.own t) => t.le u | _ => false) = true := h2
        cases e : Γ[i]? with
        | none => rw [e] at h2'; cases h2'
        | some s =>
          rw [e] at h2'
          cases s with
          | un => cases h2'
          | fz _ => cases h2'
          | own t =>
            obtain ⟨d', a, k1, k2, k3, k4, k5⟩ := R.own i t e
            have q3' : σ[i]? = some (some v) := q3
            rw [k2] at q3'
            cases q3'
            refine ⟨d', .ref a, by rw [dat (q4 ρ)]; show some (ρ.getD i .non) = _; rw [getD_of k1], sat q2, k3.fz (fun z => ?_) (fun x z => .inl (wsub x z)), Ty.le_has h2' k4⟩
            have ib : i ∈ AK.bs ks := AK.bs_mem.mpr ⟨j, h1⟩
            rcases z with z | z
            · obtain ⟨i', o1, o2⟩ := (wr a).mp z
              obtain ⟨j', hj'⟩ := AK.ob_mem.mp o1
              have lj : j' < sg.length := Nat.lt_of_lt_of_le (List.getElem?_eq_some_iff.mp hj').1 (fit_len hf)
              obtain ⟨t', ht'⟩ : ∃ t', Γ[i']? = some (.own t') := by
                rcases AK.fit_at hf (List.getElem?_eq_getElem lj) with ⟨k, kk1, kk2⟩ | ⟨kk1, _⟩
                · rw [hj'] at kk1
                  cases kk1
                  cases e' : sg[j'] with
                  | un => rw [e'] at kk2; cases kk2
                  | fz _ => rw [e'] at kk2; cases kk2
                  | own u =>
                    obtain ⟨i2, t2, l1, l2, _⟩ := o_own hf (show sg[j']? = some (.own u) by rw [List.getElem?_eq_getElem lj, e'])
                    rw [hj'] at l1
                    cases l1
                    exact ⟨t2, l2⟩
                · have := (List.getElem?_eq_some_iff.mp hj').1
                  omega
              have := R.inj i i' t t' a e ht' k2 o2
              subst this
              have := List.all_eq_true.mp ho'.2 i ib
              rw [List.contains_iff_mem.mpr o1] at this
              cases this
            · exact z.2 ⟨i, .inr ib, k2⟩
    · cases e
      have hj : j < sg.length := (List.getElem?_eq_some_iff.mp h).1
      have hj2 : j - ks.length < dds.length := by omega
      obtain ⟨v, hv, f⟩ := hd.get (List.getElem?_eq_getElem hj2)
      have im : (dds[j - ks.length]).imm = true := immL_mem hdi (List.getElem_mem hj2)
      refine ⟨dds[j - ks.length], v, by rw [List.getElem?_append_right (by omega), lr]; exact List.getElem?_eq_getElem hj2, ?_, Fz.immW im f, Ty.le_has hu (show Ty.im.has _ from im)⟩
      rw [List.getElem?_map, List.getElem?_append_right (by omega), lv, hv]
      rfl
  · obtain ⟨i, t, k1, k2, k3, k4⟩ := o_own hf h
    obtain ⟨d, v, q1, q2, q3, q4⟩ := Pa.at pa k1
    obtain ⟨d', a, l1, l2, l3, l4, l5⟩ := R.own i t k2
    have q3' : σ[i]? = some (some v) := q3
    rw [l2] at q3'
    cases q3'
    exact ⟨d', a, by rw [dat (q4 ρ)]; show some (ρ.getD i .non) = _; rw [getD_of l1], sat q2, l3.mono fun x z => .inl (wsub x z), Ty.le_has k3 l4, fun z => z.2 ⟨i, .inl (AK.ob_mem.mpr ⟨j, k1⟩), l2⟩⟩
  · obtain ⟨i, t, k1, k2, _⟩ := o_own hf h1
    obtain ⟨i', t', k1', k2', _⟩ := o_own hf h2
    obtain ⟨d, v, q1, q2, q3, q4⟩ := Pa.at pa k1
    obtain ⟨d', v', q1', q2', q3', q4'⟩ := Pa.at pa k1'
    rw [sat q2] at h3
    rw [sat q2'] at h4
    cases h3
    cases h4
    have := R.inj i i' t t' a k2 k2' q3 q3'
    subst this
    exact AK.ob_inj nd k1 k1'
/-- behind a call -/
theorem rel_back {N : AS} {outs : List D} {σc : L2.St} (R : Rel K Γ U ρ σ H) (pa : Pa K ks ds vs σ H (Wa Γ σ U)) (hf : AK.fit Γ ks sg = true) (ho : AK.once ks = true) (hσ : σc = (vs ++ dvs).map some) (hwr : ∀ x, Wr sg σc x ↔ ∃ i, i ∈ AK.ob ks ∧ σ[i]? = some (some (.ref x)))
    (ap : (AK.bs ks).isEmpty = true ∨ Gx.flat sg = true) (e : Ext H (Wr sg σc) H') (hN : ∀ x, N x → H x = none) (hN2 : ∀ x, N x → H' x ≠ none) (Rc : Rel K (ioG sg) (fun x => Uc ks Γ σ U x ∨ N x) outs σc H') :
    Rel K Γ (fun x => U x ∨ N x) (AK.back ks outs ρ) σ H' ∧ ∀ x, (AK.bs ks).isEmpty = true → Wa Γ σ (fun x => U x ∨ N x) x → Wa (ioG sg) σc (fun x => Uc ks Γ σ U x ∨ N x) x := by
  have ho' : (decide (AK.ob ks).Nodup && (AK.bs ks).all fun i => !(AK.ob ks).contains i) = true := ho
  rw [Bool.and_eq_true] at ho'
  have nd : (AK.ob ks).Nodup := of_decide_eq_true ho'.1
  have ownO : ∀ {i : Nat}, i ∈ AK.ob ks → ∃ (j : Nat) (t u : Ty), ks[j]? = some (.o i) ∧ sg[j]? = some (.own u) ∧ Γ[i]? = some (.own t) ∧ u.le t = true := fun {i} h => by
    obtain ⟨j, hj⟩ := AK.ob_mem.mp h
    have lj : j < sg.length := Nat.lt_of_lt_of_le (List.getElem?_eq_some_iff.mp hj).1 (fit_len hf)
    rcases AK.fit_at hf (List.getElem?_eq_getElem lj) with ⟨k, kk1, kk2⟩ | ⟨kk1, _⟩
    · rw [hj] at kk1
      cases kk1
      cases e' : sg[j] with
      | un => rw [e'] at kk2; cases kk2
      | fz _ => rw [e'] at kk2; cases kk2
      | own u =>
        have es : sg[j]? = some (.own u) := by rw [List.getElem?_eq_getElem lj, e']
        obtain ⟨i2, t2, l1, l2, l3, l4⟩ := o_own hf es
        rw [hj] at l1
        cases l1
        exact ⟨j, t2, u, hj, es, l2, l4⟩
    · have := (List.getElem?_eq_some_iff.mp hj).1
      omega
  have wrio : ∀ x, Wr (ioG sg) σc x ↔ Wr sg σc x := fun x => ⟨fun ⟨j, u, h1, h2⟩ => ⟨j, u, ioG_at.mp h1, h2⟩, fun ⟨j, u, h1, h2⟩ => ⟨j, u, ioG_at.mpr h1, h2⟩⟩
  have wsub : ∀ x, Wr sg σc x → Wa Γ σ U x := fun x z => by
    obtain ⟨i, h1, h2⟩ := (hwr x).mp z
    obtain ⟨j, t, u, k1, k2, k3, _⟩ := ownO h1
    exact .inl ⟨i, t, k3, h2⟩
  have up : ∀ x, (AK.bs ks).isEmpty = true → Wa Γ σ (fun x => U x ∨ N x) x → Wa (ioG sg) σc (fun x => Uc ks Γ σ U x ∨ N x) x := fun x hb z => by
    have main : Wa Γ σ U x → Wa (ioG sg) σc (fun x => Uc ks Γ σ U x ∨ N x) x := fun z => by
      by_cases hl : Lent ks σ x
      · obtain ⟨i, h1, h2⟩ := hl
        rcases h1 with h1 | h1
        · exact .inl ((wrio x).mpr ((hwr x).mpr ⟨i, h1, h2⟩))
        · rw [List.isEmpty_iff.mp hb] at h1
          cases h1
      · exact .inr (.inl ⟨z, hl⟩)
    rcases z with z | z | z
    · exact main (.inl z)
    · exact main (.inr z)
    · exact .inr (.inr z)
  have hn : ∀ x, Wa Γ σ (fun x => U x ∨ N x) x → Wa Γ σ U x ∨ H x = none := fun x z => z.elim (fun z => .inl (.inl z)) fun z => z.elim (fun z => .inl (.inr z)) fun z => .inr (hN x z)
  refine ⟨⟨by rw [AK.back_len]; exact R.len, R.glen, fun i t h => ?_, fun i t h => ?_, R.inj, fun x z => z.elim (fun z => e.there x (R.trk x z)) (hN2 x)⟩, up⟩
  · obtain ⟨d, v, h1, h2, h3, h4⟩ := R.fz i t h
    refine ⟨d, v, ?_, h2, h3.ext2 wsub e hn, h4⟩
    rw [AK.back_out fun z => ?_]
    · exact h1
    · obtain ⟨j, t', u, _, _, k3, _⟩ := ownO z
      rw [h] at k3
      cases k3
  · obtain ⟨d, a, h1, h2, h3, h4, h5⟩ := R.own i t h
    by_cases hi : i ∈ AK.ob ks
    · obtain ⟨j, t', u, k1, k2, k3, k4⟩ := ownO hi
      rw [h] at k3
      cases k3
      obtain ⟨d', a', l1, l2, l3, l4, l5⟩ := Rc.own j u (ioG_at.mpr k2)
      obtain ⟨d2, v2, q1, q2, q3, q4⟩ := Pa.at pa k1
      have ea : a' = a := by
        rw [hσ, List.getElem?_map, List.getElem?_append_left (List.getElem?_eq_some_iff.mp q2).1, q2] at l2
        have q3' : σ[i]? = some (some v2) := q3
        rw [h2] at q3'
        cases q3'
        cases l2
        rfl
      subst ea
      refine ⟨d', a', AK.back_at nd k1 l1 (List.getElem?_eq_some_iff.mp h1).1, h2, ?_, Ty.le_has k4 l4, fun z => z.elim h5 fun z => l5 (.inr z)⟩
      rcases ap with hb | hb
      · exact l3.mono fun x z => .inl (up x hb z)
      · have : u.flat = true := by
          have := List.all_eq_true.mp (show (sg.all fun s => match s with | .own t => t.flat | _ => true) = true from hb) _ (List.mem_of_getElem? k2)
          exact this
        exact l3.flat this l4
    · refine ⟨d, a, by rw [AK.back_out hi]; exact h1, h2, ?_, h4, fun z => z.elim h5 fun z => ?_⟩
      · have na : ¬ Wr sg σc a := fun z => by
          obtain ⟨i', o1, o2⟩ := (hwr a).mp z
          obtain ⟨j, t', u, _, _, k3, _⟩ := ownO o1
          have := R.inj i i' t t' a h k3 h2 o2
          subst this
          exact hi o1
        rcases h3 with ⟨es, xs, e1, e2, e3⟩ | ⟨es, xs, e1, e2, e3⟩
        · refine .inl ⟨es, xs, e1, e.keep a _ e2 na, ?_⟩
          have e4 : FzL K H (fun x => Wa Γ σ U x ∨ Wa Γ σ (fun x => U x ∨ N x) x) es xs := FzL.mono (fun x z => z.elim .inl (hn x)) e3
          exact FzL.mono (fun x z => .inl (.inr z)) (FzL.ext (fun x z => .inl (wsub x z)) e e4)
        · refine .inr ⟨es, xs, e1, e.keep a _ e2 na, ?_⟩
          have e4 : FzM K H (fun x => Wa Γ σ U x ∨ Wa Γ σ (fun x => U x ∨ N x) x) es xs := FzM.mono (fun x z => z.elim .inl (hn x)) e3
          exact FzM.mono (fun x z => .inl (.inr z)) (FzM.ext (fun x z => .inl (wsub x z)) e e4)
      · exact h3.there (hN a z)
end

section
variable {X : Cx} {Z : Zx} {L : Lp} {Γ Γ' : Gx} {e : Expr} {es : List Expr} {ψ : EM (List D)} {t u : Ty} {ks : List AK} {sg : Gx} {rk : RK} {m : List D → R D} {dds : List D} {dvs : List V} {CX : CXT} {k : Nat} {f : Addr} {fd : FuncData} {ps : List Str} {x : Str} {p pos : Pos} {dsv : List Value} {E : XK}
theorem fz_no {K : PySem.W.Frag} {H H' : Hp} {W : AS} (e : Ext H W H') {dds : List D} {dvs : List V} (h : ∀ H W, FzL K H W dds dvs) : FzL K H' (fun _ => False) dds dvs := h _ _
/-- the state of a call: what is asked of the callee's promise -/
theorem call_fz {σ : L2.St} {H : Hp} {Q : VK} {E : XK} (hk : rk = .fz t) (hf : AK.fit Γ ks sg = true) (ho : AK.once ks = true) (hl : (ks.length + dds.length == sg.length) = true) (hd : ∀ H W, FzL Z.K H W dds dvs) (hdi : D.immL dds = true)
    (ap : AK.apart ks sg rk = true) (hX : Gx.le Γ Z.ΓX = true) (hE : ∀ cls od H, Z.E cls od σ H → E cls od H) (h : Tof Z Γ (eCall m ks dds ψ) (Pf Z.K t) σ H Q) : Tof Z Γ ψ (Pa Z.K ks) σ H fun vs H1 => spF Z.K Z.XR sg rk m (vs ++ dvs) H1 Q E := by
  obtain ⟨ρ, U, R, q⟩ := h
  refine ⟨ρ, U, R, Aft.bind q fun ds ρ1 vs H1 e1 R1 pa q => ?_⟩
  have hl' : ks.length + dds.length = sg.length := beq_iff_eq.mp hl
  obtain ⟨Rc, hwr⟩ := rel_call R1 pa hf ho hl' (hd H1 _) hdi
  have ap' : ((AK.bs ks).isEmpty || (Gx.flat sg && rk.flat)) = true := ap
  rw [Bool.or_eq_true, Bool.and_eq_true] at ap'
  have wsub : ∀ x, Wr sg ((vs ++ dvs).map some) x → Wr Γ σ x := fun x z => by
    obtain ⟨j, u', h1, h2⟩ := z
    obtain ⟨i, t', k1, k2, k3, k4⟩ := o_own hf h1
    obtain ⟨d, v, q1, q2, q3, q4⟩ := Pa.at pa k1
    rw [List.getElem?_map, List.getElem?_append_left (List.getElem?_eq_some_iff.mp q2).1, q2] at h2
    cases h2
    exact ⟨i, t', k2, q3⟩
  refine ⟨_, _, by rw [List.length_append, pa.len.1, ← (hd H1 (fun _ => False)).length]; exact hl', Rc, ?_⟩
  have emp : ∀ {outs : List D} {H' : Hp}, Ext H1 (Wr sg ((vs ++ dvs).map some)) H' → Rel Z.K (ioG sg) (Uc ks Γ σ U) outs ((vs ++ dvs).map some) H' →
      Rel Z.K Γ U (AK.back ks outs ρ1) σ H' ∧ ∀ x, (AK.bs ks).isEmpty = true → Wa Γ σ U x → Wa (ioG sg) ((vs ++ dvs).map some) (Uc ks Γ σ U) x := fun {outs H'} e R' => by
    obtain ⟨q1, q2⟩ := rel_back (N := fun _ => False) (sg := sg) (dvs := dvs) (outs := outs) R1 pa hf ho rfl hwr (ap'.imp id fun z => z.1) e (fun _ z => z.elim) (fun _ z => z.elim) (R'.lessU fun x z => z.elim id fun z => z.elim)
    exact ⟨q1.lessU fun x z => .inl z, fun x hb z => (q2 x hb (z.imp id .inl)).imp id fun z => z.elim id fun z => z.elim⟩
  revert q
  show Aft Z Γ (Pf Z.K t) σ H1 U Q (match m (AK.resL ks ds ρ1 ++ dds) with | .ok d outs => .ok d (AK.back ks outs ρ1) | .exc c p outs => .exc c p (AK.back ks outs ρ1) | .bad => .bad) → _
  cases m (AK.resL ks ds ρ1 ++ dds) with
  | bad => exact fun q => q
  | exc c p outs => exact fun q cls od H' e R' xr => hE cls od H' (q cls od H' (e.mono wsub) ((emp e R').1.weak hX) xr)
  | ok d outs =>
    intro q v H' e r
    rw [hk] at r
    obtain ⟨R', f', hh⟩ := r
    obtain ⟨R2, up⟩ := emp e R'
    refine q v H' (e.mono wsub) R2 ⟨?_, hh⟩
    rcases ap' with hb | ⟨_, hb⟩
    · exact f'.mono fun x z => .inl (up x hb z)
    · rw [hk] at hb
      cases t with
      | im => exact Fz.immW hh f'
      | _ => cases hb
theorem call_nw {σ : L2.St} {H : Hp} {Q : VK} {E : XK} (hk : rk = .nw t) (hf : AK.fit Γ ks sg = true) (ho : AK.once ks = true) (hl : (ks.length + dds.length == sg.length) = true) (hd : ∀ H W, FzL Z.K H W dds dvs) (hdi : D.immL dds = true)
    (ap : AK.apart ks sg rk = true) (hX : Gx.le Γ Z.ΓX = true) (hE : ∀ cls od H, Z.E cls od σ H → E cls od H) (h : TofN Z Γ (eCall m ks dds ψ) t σ H Q) : Tof Z Γ ψ (Pa Z.K ks) σ H fun vs H1 => spF Z.K Z.XR sg rk m (vs ++ dvs) H1 Q E := by
  obtain ⟨ρ, U, R, q⟩ := h
  refine ⟨ρ, U, R, AftN.bind q fun ds ρ1 vs H1 e1 R1 pa q => ?_⟩
  have hl' : ks.length + dds.length = sg.length := beq_iff_eq.mp hl
  obtain ⟨Rc, hwr⟩ := rel_call R1 pa hf ho hl' (hd H1 _) hdi
  have ap' : ((AK.bs ks).isEmpty || (Gx.flat sg && rk.flat)) = true := ap
  rw [Bool.or_eq_true, Bool.and_eq_true] at ap'
  have wsub : ∀ x, Wr sg ((vs ++ dvs).map some) x → Wr Γ σ x := fun x z => by
    obtain ⟨j, u', h1, h2⟩ := z
    obtain ⟨i, t', k1, k2, k3, k4⟩ := o_own hf h1
    obtain ⟨d, v, q1, q2, q3, q4⟩ := Pa.at pa k1
    rw [List.getElem?_map, List.getElem?_append_left (List.getElem?_eq_some_iff.mp q2).1, q2] at h2
    cases h2
    exact ⟨i, t', k2, q3⟩
  refine ⟨_, _, by rw [List.length_append, pa.len.1, ← (hd H1 (fun _ => False)).length]; exact hl', Rc, ?_⟩
  revert q
  show AftN Z Γ t σ H1 U Q (match m (AK.resL ks ds ρ1 ++ dds) with | .ok d outs => .ok d (AK.back ks outs ρ1) | .exc c p outs => .exc c p (AK.back ks outs ρ1) | .bad => .bad) → _
  cases m (AK.resL ks ds ρ1 ++ dds) with
  | bad => exact fun q => q
  | exc c p outs =>
    intro q cls od H' e R' xr
    obtain ⟨q1, _⟩ := rel_back (N := fun _ => False) (sg := sg) (dvs := dvs) (outs := outs) R1 pa hf ho rfl hwr (ap'.imp id fun z => z.1) e (fun _ z => z.elim) (fun _ z => z.elim) (R'.lessU fun x z => z.elim id fun z => z.elim)
    exact hE cls od H' (q cls od H' (e.mono wsub) ((q1.lessU fun x z => .inl z).weak hX) xr)
  | ok d outs =>
    intro q v H' e r
    rw [hk] at r
    obtain ⟨p, rfl, hp, R', o', hh⟩ := r
    obtain ⟨R2, up⟩ := rel_back (N := fun x => x = p) (sg := sg) (dvs := dvs) (outs := outs) R1 pa hf ho rfl hwr (ap'.imp id fun z => z.1) e (fun x z => by rw [z]; exact hp) (fun x z => by rw [z]; exact o'.there) R'
    refine q p H' (e.mono wsub) hp R2 ?_ hh
    rcases ap' with hb | ⟨_, hb⟩
    · exact o'.mono fun x z => .inl (up x hb z)
    · rw [hk] at hb
      exact o'.flat hb hh
theorem PE.impE {X : Cx} {e : Expr} {t t' : TE} (h : PE X e t) (w : ∀ σ H Q, t' σ H Q → t σ H Q) : PE X e t' := PE.imp h w
theorem se_call (F : FnOk X.prog X.w X.K X.mg X.base CX k f fd ps (spF Z.K Z.XR sg (.fz t) m)) (hr : Room k X.A) (hg : Gl X x) (hm : X.mg x = some (.ref f)) (hkp : PySem.W.keepIn X.K (.ref f) = true) (hb : Binds X.K fd ps dsv) (hdv : Vals dvs dsv) (hx : Passes CX X E)
    (hE : ∀ cls od σ H, Z.E cls od σ H → E cls od H) (ha : SA X Z Γ (e :: es) ψ ks) (hd : ∀ H W, FzL Z.K H W dds dvs) (hf : AK.fit Γ ks sg = true := by rfl) (ho : AK.once ks = true := by decide) (hl : (ks.length + dds.length == sg.length) = true := by rfl)
    (hdi : D.immL dds = true := by rfl) (ap : AK.apart ks sg (.fz t) = true := by rfl) (hX : Gx.le Γ Z.ΓX = true := by rfl) (hdb : (x == ("__debug__" : Str)) = false := by decide)
    (he : starEach (e :: es) X.env = (false, eval e X.env) :: starEach es X.env := by rfl) (hpl : (backTo pos (starEach es X.env)).any (·.1) = false := by rfl) :
    SE X Z Γ (.Call (.Name x p) (e :: es) [] pos) (eCall m ks dds ψ) t := PE.imp (pe_call F hr hg hm hkp hb hdv hx ha hdb he hpl) fun σ H Q h => call_fz (E := E) rfl hf ho hl hd hdi ap hX (fun cls od H z => hE cls od σ H z) h
theorem sn_call (F : FnOk X.prog X.w X.K X.mg X.base CX k f fd ps (spF Z.K Z.XR sg (.nw t) m)) (hr : Room k X.A) (hg : Gl X x) (hm : X.mg x = some (.ref f)) (hkp : PySem.W.keepIn X.K (.ref f) = true) (hb : Binds X.K fd ps dsv) (hdv : Vals dvs dsv) (hx : Passes CX X E)
    (hE : ∀ cls od σ H, Z.E cls od σ H → E cls od H) (ha : SA X Z Γ (e :: es) ψ ks) (hd : ∀ H W, FzL Z.K H W dds dvs) (hf : AK.fit Γ ks sg = true := by rfl) (ho : AK.once ks = true := by decide) (hl : (ks.length + dds.length == sg.length) = true := by rfl)
    (hdi : D.immL dds = true := by rfl) (ap : AK.apart ks sg (.nw t) = true := by rfl) (hX : Gx.le Γ Z.ΓX = true := by rfl) (hdb : (x == ("__debug__" : Str)) = false := by decide)
    (he : starEach (e :: es) X.env = (false, eval e X.env) :: starEach es X.env := by rfl) (hpl : (backTo pos (starEach es X.env)).any (·.1) = false := by rfl) :
    SN X Z Γ (.Call (.Name x p) (e :: es) [] pos) (eCall m ks dds ψ) t := PE.imp (pe_call F hr hg hm hkp hb hdv hx ha hdb he hpl) fun σ H Q h => call_nw (E := E) rfl hf ho hl hd hdi ap hX (fun cls od H z => hE cls od σ H z) h
end
end VL
/-! VL8: operators and built-ins by value. -/
namespace VL
open PySem L2

/-! ### equality of data -/
mutual
def D.py : D → PyData
  | .non => .none
  | .bl b => .bool b
  | .int i => .int i
  | .str x => .str x
  | .tup ds => .tuple (D.pyL ds)
  | .lst ds => .list (D.pyL ds)
  | .dic _ => .dict []
def D.pyL : List D → List PyData
  | [] => []
  | d :: ds => d.py :: D.pyL ds
end
def D.eqv (a b : D) : Bool := PyData.eqv a.py b.py
def D.flatOk (a b : D) : Bool := a.py.plain && b.py.plain && decide (min a.py.depth b.py.depth ≤ 150)
def dEq (a b : D) : Option D := if D.flatOk a b = true then some (.bl (D.eqv a b)) else none
def dNe (a b : D) : Option D := if D.flatOk a b = true then some (.bl (!D.eqv a b)) else none
section
variable {K : PySem.W.Frag} {H : Hp} {W : AS}
mutual
theorem Fz.dp : ∀ {d : D} {v : V}, d.py.plain = true → Fz K H W d v → Dp K H v d.py
  | .non, _, _, h => by rw [show _ = V.non from h]; exact .non
  | .bl b, _, _, h => by rw [show _ = V.bl b from h]; exact .bl b
  | .int i, _, _, h => by rw [show _ = V.int i from h]; exact .int i
  | .str x, _, _, h => by rw [show _ = V.str x from h]; exact .str x
  | .tup ds, _, p, ⟨a, xs, h1, h2, h3⟩ => by rw [h1]; exact .tup h2.sq (FzL.dp (show PyData.plainAll (D.pyL ds) = true from p) h3)
  | .lst ds, _, p, ⟨a, xs, h1, h2, h3⟩ => by rw [h1]; exact .lst h2.sq (FzL.dp (show PyData.plainAll (D.pyL ds) = true from p) h3)
  | .dic _, _, p, _ => by cases p
theorem FzL.dp : ∀ {ds : List D} {vs : List V}, PyData.plainAll (D.pyL ds) = true → FzL K H W ds vs → DpAll K H vs (D.pyL ds)
  | [], _, _, h => by rw [show _ = [] from h]; exact .nil
  | d :: ds, _, p, ⟨v, r, h1, h2, h3⟩ => by
    have p' : (d.py.plain && PyData.plainAll (D.pyL ds)) = true := p
    rw [Bool.and_eq_true] at p'
    rw [h1]
    exact .cons (Fz.dp p'.1 h2) (FzL.dp p'.2 h3)
end
theorem Vw.dp {d : D} {v : V} (p : d.py.plain = true) (h : Vw K H W d v) : Dp K H v d.py := by
  rcases h with h | ⟨a, rfl, ⟨ds, xs, rfl, h2, h3⟩ | ⟨ds, xs, rfl, h2, h3⟩⟩
  · exact h.dp p
  · exact .lst (SqL.of h2) (h3.dp p)
  · cases p
end
section
variable {X : Cx}
def rEqP (K : PySem.W.Frag) (neg : Bool) : R2 := fun x y H Q => ∃ d e, Dp K H x d ∧ Dp K H y e ∧ d.plain = true ∧ e.plain = true ∧ min d.depth e.depth ≤ 150 ∧ Q (.bl (if neg = true then !PyData.eqv d e else PyData.eqv d e)) H
theorem op_eqP (hu : X.A.units + 200 < cLine) : OpR X (compareOp .Eq) (rEqP X.K false) := by
  intro pins s σ H x y v u Q I rx ry h
  obtain ⟨d, e, hd, he, sd, se, dp, q⟩ := h
  obtain ⟨as, r1⟩ := Dp.reads I d x v hd rx
  obtain ⟨bs, r2⟩ := Dp.reads I e y u he ry
  exact SeqAt.eq_plain r1 r2 sd se (by omega) ⟨.bl _, H, I, rfl, q⟩
theorem op_neP (hu : X.A.units + 200 < cLine) : OpR X (compareOp .NotEq) (rEqP X.K true) := by
  intro pins s σ H x y v u Q I rx ry h
  obtain ⟨d, e, hd, he, sd, se, dp, q⟩ := h
  obtain ⟨as, r1⟩ := Dp.reads I d x v hd rx
  obtain ⟨bs, r2⟩ := Dp.reads I e y u he ry
  exact SeqAt.ne_plain r1 r2 sd se (by omega) ⟨.bl _, H, I, rfl, q⟩
end
section
variable {K : PySem.W.Frag} {ta tb : Ty}
theorem fin_im {H : Hp} {W : AS} {d : D} {v : V} (hf : ∀ H W, Fz K H W d v) (hi : d.imm = true) : Ty.im.has d ∧ ∀ Q : VK, (∀ v H', Ext H (fun _ => False) H' → Fz K H' W d v → Q v H') → Q v H := ⟨hi, fun _ q => q v H .refl (hf _ _)⟩
theorem eq_s : OpS K (rEqP K false) dEq ta tb .im := fun H W x y da db d hx hy hta htb hf => by
  clear hta htb
  unfold dEq at hf
  by_cases c : D.flatOk da db = true
  · rw [if_pos c] at hf
    cases hf
    unfold D.flatOk at c
    rw [Bool.and_eq_true, Bool.and_eq_true, decide_eq_true_eq] at c
    exact ⟨rfl, fun Q q => ⟨_, _, hx.dp c.1.1, hy.dp c.1.2, c.1.1, c.1.2, c.2, q _ H .refl rfl⟩⟩
  · rw [if_neg c] at hf
    cases hf
theorem ne_s : OpS K (rEqP K true) dNe ta tb .im := fun H W x y da db d hx hy hta htb hf => by
  clear hta htb
  unfold dNe at hf
  by_cases c : D.flatOk da db = true
  · rw [if_pos c] at hf
    cases hf
    unfold D.flatOk at c
    rw [Bool.and_eq_true, Bool.and_eq_true, decide_eq_true_eq] at c
    exact ⟨rfl, fun Q q => ⟨_, _, hx.dp c.1.1, hy.dp c.1.2, c.1.1, c.1.2, c.2, q _ H .refl rfl⟩⟩
  · rw [if_neg c] at hf
    cases hf

/-! ### ints -/
def d2I (c : Int → Int → Bool) (g : Int → Int → D) : D → D → Option D
  | .int i, .int j => if c i j = true then some (g i j) else none
  | _, _ => none
theorem Vw.int {H : Hp} {W : AS} {i : Int} {v : V} (h : Vw K H W (.int i) v) : v = .int i := by
  rcases h with h | ⟨a, _, ⟨_, _, e, _⟩ | ⟨_, _, e, _⟩⟩
  · exact h
  · cases e
  · cases e
theorem Vw.str {H : Hp} {W : AS} {i : Str} {v : V} (h : Vw K H W (.str i) v) : v = .str i := by
  rcases h with h | ⟨a, _, ⟨_, _, e, _⟩ | ⟨_, _, e, _⟩⟩
  · exact h
  · cases e
  · cases e
theorem Vw.bl {H : Hp} {W : AS} {i : Bool} {v : V} (h : Vw K H W (.bl i) v) : v = .bl i := by
  rcases h with h | ⟨a, _, ⟨_, _, e, _⟩ | ⟨_, _, e, _⟩⟩
  · exact h
  · cases e
  · cases e
theorem Vw.tup {H : Hp} {W : AS} {ds : List D} {v : V} (h : Vw K H W (.tup ds) v) : ∃ a xs, v = .ref a ∧ TupAt K H a xs ∧ FzL K H W ds xs := by
  rcases h with h | ⟨a, _, ⟨_, _, e, _⟩ | ⟨_, _, e, _⟩⟩
  · exact h
  · cases e
  · cases e
theorem Vw.lst {H : Hp} {W : AS} {ds : List D} {v : V} (h : Vw K H W (.lst ds) v) : ∃ a xs, v = .ref a ∧ SqL K H a xs ∧ FzL K H W ds xs := by
  rcases h with ⟨a, xs, h1, h2, h3⟩ | ⟨a, e1, ⟨ds', xs, e, h2, h3⟩ | ⟨_, _, e, _⟩⟩
  · exact ⟨a, xs, h1, h2.sq, h3⟩
  · cases e
    exact ⟨a, xs, e1, SqL.of h2, h3⟩
  · cases e
/-- two ints, by what the hand layer's rule asks -/
theorem ii_s {C : Int → Int → Prop} {c : Int → Int → Bool} {gv : Int → Int → V} {g : Int → Int → D} (hc : ∀ i j, c i j = true → C i j) (hg : ∀ i j H W, Fz K H W (g i j) (gv i j)) (hi : ∀ i j, (g i j).imm = true) : OpS K (rI C gv) (d2I c g) ta tb .im := fun H W x y da db d hx hy hta htb hf => by
  clear hta htb
  cases da <;> first | cases hf | skip
  cases db <;> first | cases hf | skip
  rename_i i j
  have hf' : (if c i j = true then some (g i j) else none) = some d := hf
  by_cases q : c i j = true
  · rw [if_pos q] at hf'
    cases hf'
    exact ⟨hi i j, fun Q k => ⟨i, j, hx.int, hy.int, hc i j q, k _ H .refl (hg i j H W)⟩⟩
  · rw [if_neg q] at hf'
    cases hf'
theorem ii0_s {gv : Int → Int → V} {g : Int → Int → D} (hg : ∀ i j H W, Fz K H W (g i j) (gv i j)) (hi : ∀ i j, (g i j).imm = true) : OpS K (rI0 gv) (d2I (fun _ _ => true) g) ta tb .im := fun H W x y da db d hx hy hta htb hf => by
  clear hta htb
  cases da with
  | int i =>
    cases db with
    | int j =>
      have hf' : some (g i j) = some d := hf
      cases hf'
      exact ⟨hi i j, fun Q k => ⟨i, j, hx.int, hy.int, k _ H .refl (hg i j H W)⟩⟩
    | _ => cases hf
  | _ => cases hf
def dSub := d2I (fun _ _ => true) fun i j => .int (i - j)
def mulOk (i j : Int) : Bool := decide ((-(2 ^ 64) < i ∧ i < 2 ^ 64) ∨ (-(2 ^ 64) < j ∧ j < 2 ^ 64)) || decide (i.natAbs.log2 + j.natAbs.log2 < 1000000)
def dMul := d2I mulOk fun i j => .int (i * j)
def dMod := d2I (fun _ j => decide (0 < j)) fun i j => .int (i % j)
def dDiv := d2I (fun _ j => decide (0 < j ∧ j.natAbs.log2 < 9000)) fun i j => .int (i / j)
def dPow := d2I (fun i j => decide (0 ≤ j ∧ j ≤ 1000000 ∧ i.natAbs < 2 ^ 64)) fun i j => .int (i ^ j.toNat)
def dLt := d2I (fun _ _ => true) fun i j => .bl (decide (i < j))
def dLe := d2I (fun _ _ => true) fun i j => .bl (decide (i ≤ j))
def dGt := d2I (fun _ _ => true) fun i j => .bl (decide (j < i))
def dGe := d2I (fun _ _ => true) fun i j => .bl (decide (j ≤ i))
theorem sub_s : OpS K (rI0 fun i j => .int (i - j)) dSub ta tb .im := ii0_s (fun _ _ _ _ => rfl) fun _ _ => rfl
def CMulB (i j : Int) : Prop := CMul i j ∨ CMulW i j
theorem op_mulB {X : Cx} : OpR X (binaryOp .Mult) (rI CMulB fun i j => .int (i * j)) := opI fun _ _ _ _ _ _ _ hc q => PyProof.Rows.mul_int q (hc.elim CMul.ok CMulW.ok)
theorem mul_s : OpS K (rI CMulB fun i j => .int (i * j)) dMul ta tb .im := ii_s (fun i j h => by
  unfold mulOk at h
  rw [Bool.or_eq_true, decide_eq_true_eq, decide_eq_true_eq] at h
  exact h) (fun _ _ _ _ => rfl) fun _ _ => rfl
theorem mod_s : OpS K (rI (fun _ j => 0 < j) fun i j => .int (i % j)) dMod ta tb .im := ii_s (fun _ _ h => of_decide_eq_true h) (fun _ _ _ _ => rfl) fun _ _ => rfl
theorem div_s : OpS K (rI CDivW fun i j => .int (i / j)) dDiv ta tb .im := ii_s (fun i j h => (show CDivW i j from of_decide_eq_true (p := 0 < j ∧ j.natAbs.log2 < 9000) h)) (fun _ _ _ _ => rfl) fun _ _ => rfl
theorem pow_s : OpS K (rI CPow fun i j => .int (i ^ j.toNat)) dPow ta tb .im := ii_s (fun i j h => (show CPow i j from of_decide_eq_true (p := 0 ≤ j ∧ j ≤ 1000000 ∧ i.natAbs < 2 ^ 64) h)) (fun _ _ _ _ => rfl) fun _ _ => rfl
theorem lt_s : OpS K (rI0 fun i j => .bl (decide (i < j))) dLt ta tb .im := ii0_s (fun _ _ _ _ => rfl) fun _ _ => rfl
theorem le_s : OpS K (rI0 fun i j => .bl (decide (i ≤ j))) dLe ta tb .im := ii0_s (fun _ _ _ _ => rfl) fun _ _ => rfl
theorem gt_s : OpS K (rI0 fun i j => .bl (decide (j < i))) dGt ta tb .im := ii0_s (fun _ _ _ _ => rfl) fun _ _ => rfl
theorem ge_s : OpS K (rI0 fun i j => .bl (decide (j ≤ i))) dGe ta tb .im := ii0_s (fun _ _ _ _ => rfl) fun _ _ => rfl
/-- a + b: ints, texts -/
def dAdd : D → D → Option D
  | .int i, .int j => some (.int (i + j))
  | .str a, .str b => if a.length + b.length ≤ sizeLine then some (.str (a ++ b)) else none
  | .tup a, .tup b => if a.length + b.length ≤ sizeLine then some (.tup (a ++ b)) else none
  | _, _ => none
def rAddB (K : PySem.W.Frag) : R2 := fun x y H Q => ((rI0 fun i j => .int (i + j)) x y H Q ∨ (fun (x y : V) (H : Hp) (Q : VK) => ∃ i j, x = .str i ∧ y = .str j ∧ i.length + j.length ≤ sizeLine ∧ Q (.str (i ++ j)) H) x y H Q) ∨ rCatA K x y H Q
theorem op_addB {X : Cx} : OpR X (binaryOp .Add) (rAddB X.K) := (op_add.or op_add_str).or op_catA
theorem immL_app : ∀ {a b : List D}, D.immL a = true → D.immL b = true → D.immL (a ++ b) = true
  | [], _, _, h => h
  | x :: a, b, h, q => by
    unfold D.immL at h
    rw [Bool.and_eq_true] at h
    show D.immL (x :: (a ++ b)) = true
    unfold D.immL
    rw [h.1, immL_app h.2 q]
    rfl
theorem add_s : OpS K (rAddB K) dAdd .im .im .im := fun H W x y da db d hx hy hta htb hf => by
  cases da <;> first | cases hf | skip
  · cases db <;> first | cases hf | skip
    exact ⟨rfl, fun Q k => .inl (.inl ⟨_, _, hx.int, hy.int, k _ H .refl rfl⟩)⟩
  · cases db <;> first | cases hf | skip
    rename_i a b
    have hf' : (if a.length + b.length ≤ sizeLine then some (D.str (a ++ b)) else none) = some d := hf
    by_cases c : a.length + b.length ≤ sizeLine
    · rw [if_pos c] at hf'
      cases hf'
      exact ⟨rfl, fun Q k => .inl (.inr ⟨a, b, hx.str, hy.str, c, k _ H .refl rfl⟩)⟩
    · rw [if_neg c] at hf'
      cases hf'
  · cases db <;> first | cases hf | skip
    rename_i as bs
    have hf' : (if as.length + bs.length ≤ sizeLine then some (D.tup (as ++ bs)) else none) = some d := hf
    by_cases c : as.length + bs.length ≤ sizeLine
    · rw [if_pos c] at hf'
      cases hf'
      obtain ⟨a, xs, rfl, h1, f1⟩ := hx.tup
      obtain ⟨b, ys, rfl, h2, f2⟩ := hy.tup
      refine ⟨immL_app hta htb, fun Q k => .inr ⟨a, b, xs, ys, rfl, rfl, h1.sq, h2.sq, by rw [← f1.length, ← f2.length]; exact c, fun e => ?_, fun n e => ?_, fun _ _ p hp => ?_⟩⟩
      · subst e
        have e0 : as = [] := List.length_eq_zero_iff.mp f1.length
        subst e0
        exact k _ H .refl ⟨b, ys, rfl, h2, f2⟩
      · subst e
        have e0 : bs = [] := List.length_eq_zero_iff.mp f2.length
        subst e0
        rw [List.append_nil] at k
        exact k _ H .refl ⟨a, xs, rfl, h1, f1⟩
      · exact k _ _ (Ext.new hp) ⟨p, xs ++ ys, rfl, .inl upd_same, FzL.ext (fun _ z => z.elim) (Ext.new (W := fun _ => False) hp) (f1.append f2)⟩
    · rw [if_neg c] at hf'
      cases hf'
def dNeg : D → Option D
  | .int i => some (.int (-i))
  | _ => none
theorem neg_s : UnS K (rU fun i => .int (-i)) dNeg ta .im := fun H W x da d hx hta hf => by
  clear hta
  cases da <;> first | cases hf | skip
  exact ⟨rfl, fun Q k => ⟨_, hx.int, k _ H .refl rfl⟩⟩
/-- is None, is not None -/
def dIsN : D → D → Option D
  | .non, .non => some (.bl true)
  | _, .non => some (.bl false)
  | _, _ => none
def dNotN : D → D → Option D
  | .non, .non => some (.bl false)
  | _, .non => some (.bl true)
  | _, _ => none
theorem Vw.non_iff {H : Hp} {W : AS} {d : D} {v : V} (h : Vw K H W d v) : v = .non ↔ d = .non := by
  rcases h with h | ⟨a, rfl, ⟨_, _, rfl, _⟩ | ⟨_, _, rfl, _⟩⟩
  · cases d with
    | non => exact ⟨fun _ => rfl, fun _ => h⟩
    | bl b => rw [show v = .bl b from h]; simp
    | int b => rw [show v = .int b from h]; simp
    | str b => rw [show v = .str b from h]; simp
    | tup ds => obtain ⟨a, xs, rfl, _⟩ := h; simp
    | lst ds => obtain ⟨a, xs, rfl, _⟩ := h; simp
    | dic ds => obtain ⟨a, xs, rfl, _⟩ := h; simp
  · simp
  · simp
theorem isN_s : OpS K (fun x y H Q => y = .non ∧ Q (.bl (decide (x = .non))) H) dIsN ta tb .im := fun H W x y da db d hx hy hta htb hf => by
  clear hta htb
  have hdb : db = .non := by cases db <;> first | rfl | (cases da <;> cases hf)
  subst hdb
  have hy' : y = .non := hy.non_iff.mpr rfl
  by_cases c : da = .non
  · subst c
    cases hf
    exact ⟨rfl, fun Q k => ⟨hy', by rw [decide_eq_true (hx.non_iff.mpr rfl)]; exact k _ H .refl rfl⟩⟩
  · have hx' : ¬ x = .non := fun z => c (hx.non_iff.mp z)
    have e : d = .bl false := by cases da <;> first | exact absurd rfl c | (cases hf; rfl)
    subst e
    exact ⟨rfl, fun Q k => ⟨hy', by rw [decide_eq_false hx']; exact k _ H .refl rfl⟩⟩
theorem notN_s : OpS K (fun x y H Q => y = .non ∧ Q (.bl (!decide (x = .non))) H) dNotN ta tb .im := fun H W x y da db d hx hy hta htb hf => by
  clear hta htb
  have hdb : db = .non := by cases db <;> first | rfl | (cases da <;> cases hf)
  subst hdb
  have hy' : y = .non := hy.non_iff.mpr rfl
  by_cases c : da = .non
  · subst c
    cases hf
    exact ⟨rfl, fun Q k => ⟨hy', by rw [decide_eq_true (hx.non_iff.mpr rfl)]; exact k _ H .refl rfl⟩⟩
  · have hx' : ¬ x = .non := fun z => c (hx.non_iff.mp z)
    have e : d = .bl true := by cases da <;> first | exact absurd rfl c | (cases hf; rfl)
    subst e
    exact ⟨rfl, fun Q k => ⟨hy', by rw [decide_eq_false hx']; exact k _ H .refl rfl⟩⟩

/-! ### subscripts -/
def dIx : D → D → Option D
  | .lst ds, .int i => atI ds i
  | .tup ds, .int i => atI ds i
  | .str z, .int i => if z.length ≤ sizeLine then (atI z.cps.toList i).map fun c => .str ⟨#[c]⟩ else none
  | _, _ => none
theorem FzL.atI {H : Hp} {W : AS} {ds : List D} {xs : List V} {i : Int} {d : D} (f : FzL K H W ds xs) (h : L2.atI ds i = some d) : ∃ v, L2.atI xs i = some v ∧ Fz K H W d v := by
  unfold L2.atI at h ⊢
  rw [← f.length]
  cases e : ixN ds.length i with
  | none => rw [e] at h; cases h
  | some j =>
    rw [e] at h
    exact f.get (show ds[j]? = some d from h)
theorem atI_mem {α : Type} {ds : List α} {i : Int} {d : α} (h : atI ds i = some d) : d ∈ ds := by
  unfold L2.atI at h
  cases e : ixN ds.length i with
  | none => rw [e] at h; cases h
  | some j =>
    rw [e] at h
    exact List.mem_of_getElem? (show ds[j]? = some d from h)
theorem ix_s : OpS K (rIx K) dIx ta tb (elems ta) := fun H W x y da db d hx hy ha htb hf => by
  clear htb
  cases da with
  | str z =>
    cases db with
    | int i =>
      have hf' : (if z.length ≤ sizeLine then (atI z.cps.toList i).map fun c => D.str ⟨#[c]⟩ else none) = some d := hf
      by_cases c : z.length ≤ sizeLine
      · rw [if_pos c] at hf'
        cases e : L2.atI z.cps.toList i with
        | none => rw [e] at hf'; cases hf'
        | some k =>
          rw [e] at hf'
          cases hf'
          refine ⟨?_, fun Q q => .inr (.inr ⟨z, i, k, hx.str, hy.int, c, e, q _ H .refl rfl⟩)⟩
          cases ta <;> first | rfl | trivial | (obtain ⟨_, e, _⟩ := ha; cases e)
      · rw [if_neg c] at hf'
        cases hf'
    | _ => cases hf
  | tup ds =>
    cases db with
    | int i =>
      have hf' : L2.atI ds i = some d := hf
      obtain ⟨a, xs, rfl, h2, h3⟩ := hx.tup
      obtain ⟨v, hv, f⟩ := h3.atI hf'
      refine ⟨?_, fun Q q => .inr (.inl ⟨a, xs, i, v, rfl, hy.int, h2.sq, hv, q v H .refl f⟩)⟩
      cases ta with
      | im => exact immL_mem (show D.immL ds = true from ha) (atI_mem hf')
      | any => trivial
      | L t => obtain ⟨_, e, _⟩ := ha; cases e
      | M t => trivial
      | T ts => trivial
    | _ => cases hf
  | lst ds =>
    cases db with
    | int i =>
      have hf' : L2.atI ds i = some d := hf
      obtain ⟨a, xs, rfl, h2, h3⟩ := hx.lst
      obtain ⟨v, hv, f⟩ := h3.atI hf'
      exact ⟨elems_has ha (.inl rfl) d (atI_mem hf'), fun Q q => .inl ⟨a, xs, i, v, rfl, hy.int, h2, hv, q v H .refl f⟩⟩
    | _ => cases hf
  | _ => cases hf
/-- a place of a tuple of several types -/
def dIxAt (j : Nat) (a b : D) : Option D := match a, b with
  | .tup ds, .int i => if i = (j : Int) then ds[j]? else none
  | _, _ => none
theorem hasL_at : ∀ {ts : List Ty} {ds : List D} {j : Nat} {d : D} {t : Ty}, Ty.hasL ts ds → ds[j]? = some d → ts[j]? = some t → t.has d
  | t :: ts, _, 0, d, u, ⟨d', r, e, h1, h2⟩, e1, e2 => by
    rw [e] at e1
    have e1' : d' = d := by simpa using e1
    have e2' : t = u := by simpa using e2
    rw [← e1', ← e2']
    exact h1
  | t :: ts, _, j + 1, d, u, ⟨d', r, e, h1, h2⟩, e1, e2 => by
    rw [e] at e1
    exact hasL_at (j := j) h2 (by simpa using e1) (by simpa using e2)
  | [], _, _, _, _, _, _, e2 => by simp at e2
theorem ixAt_s {ts : List Ty} {j : Nat} {t : Ty} (hj : ts[j]? = some t) : OpS K (rIx K) (dIxAt j) (.T ts) tb t := fun H W x y da db d hx hy ha htb hf => by
  clear htb
  cases da with
  | tup ds =>
    cases db with
    | int i =>
      have hf' : (if i = (j : Int) then ds[j]? else none) = some d := hf
      by_cases c : i = (j : Int)
      · rw [if_pos c] at hf'
        obtain ⟨a, xs, rfl, h2, h3⟩ := hx.tup
        obtain ⟨v, hv, f⟩ := h3.get hf'
        obtain ⟨ds', e, hh⟩ := ha
        cases e
        exact ⟨hasL_at hh hf' hj, fun Q q => .inr (.inl ⟨a, xs, i, v, rfl, hy.int, h2.sq, by rw [c]; exact atI_nat hv, q v H .refl f⟩)⟩
      · rw [if_neg c] at hf'
        cases hf'
    | _ => cases hf
  | _ => cases hf

/-! ### in -/
def dIn (neg : Bool) (x c : D) : Option D := match c with
  | .lst ds => if (x.py.plain && PyData.plainAll (D.pyL ds) && decide (min (PyData.depthAll (D.pyL ds)) x.py.depth ≤ 150)) = true then some (.bl (if neg = true then !ds.any (fun y => D.eqv y x) else ds.any fun y => D.eqv y x)) else none
  | .tup ds => if (x.py.plain && PyData.plainAll (D.pyL ds) && decide (min (PyData.depthAll (D.pyL ds)) x.py.depth ≤ 150)) = true then some (.bl (if neg = true then !ds.any (fun y => D.eqv y x) else ds.any fun y => D.eqv y x)) else none
  | .str z => match x with
    | .str w => if w.cps.size = 1 then some (.bl (if neg = true then !decide (w.cps.getD 0 0 ∈ z.cps.toList) else decide (w.cps.getD 0 0 ∈ z.cps.toList))) else none
    | _ => none
  | _ => none
def rInP (K : PySem.W.Frag) (neg : Bool) : R2 := fun x y H Q => ∃ d xs, Dp K H x d ∧ (Dp K H y (.list xs) ∨ Dp K H y (.tuple xs)) ∧ d.plain = true ∧ PyData.plainAll xs = true ∧ min (PyData.depthAll xs) d.depth ≤ 150 ∧
  Q (.bl (if neg = true then !xs.any (fun y => PyData.eqv y d) else xs.any fun y => PyData.eqv y d)) H
def rInB (K : PySem.W.Frag) (neg : Bool) : R2 := fun x y H Q => rInP K neg x y H Q ∨ ∃ (c : Nat) (z : Str), x = .str ⟨#[c]⟩ ∧ y = .str z ∧ Q (.bl (if neg = true then !decide (c ∈ z.cps.toList) else decide (c ∈ z.cps.toList))) H
theorem op_inP {X : Cx} (hu : X.A.units + 200 < cLine) : OpR X (compareOp .In) (rInP X.K false) := by
  intro pins s σ H x y v u Q I rx ry h
  obtain ⟨d, xs, hd, hy, sd, sx, dp, q⟩ := h
  obtain ⟨as, r1⟩ := Dp.reads I d x v hd rx
  rcases hy with hy | hy
  · obtain ⟨bs, r2⟩ := Dp.reads I _ y u hy ry
    exact SeqAt.in_list_data r2 r1 sx sd (by omega) ⟨.bl _, H, I, rfl, q⟩
  · obtain ⟨bs, r2⟩ := Dp.reads I _ y u hy ry
    exact SeqAt.in_tuple_data r2 r1 sx sd (by omega) ⟨.bl _, H, I, rfl, q⟩
theorem op_notInP {X : Cx} (hu : X.A.units + 200 < cLine) : OpR X (compareOp .NotIn) (rInP X.K true) := by
  intro pins s σ H x y v u Q I rx ry h
  obtain ⟨d, xs, hd, hy, sd, sx, dp, q⟩ := h
  obtain ⟨as, r1⟩ := Dp.reads I d x v hd rx
  rcases hy with hy | hy
  · obtain ⟨bs, r2⟩ := Dp.reads I _ y u hy ry
    exact SeqAt.notIn_list_data r2 r1 sx sd (by omega) ⟨.bl _, H, I, rfl, q⟩
  · obtain ⟨bs, r2⟩ := Dp.reads I _ y u hy ry
    exact SeqAt.notIn_tuple_data r2 r1 sx sd (by omega) ⟨.bl _, H, I, rfl, q⟩
theorem op_inB {X : Cx} (hu : X.A.units + 200 < cLine) : OpR X (compareOp .In) (rInB X.K false) := (op_inP hu).or op_in_sign
theorem op_notInB {X : Cx} (hu : X.A.units + 200 < cLine) : OpR X (compareOp .NotIn) (rInB X.K true) := (op_notInP hu).or op_notIn_sign
theorem any_pyL (x : D) : ∀ ds : List D, (D.pyL ds).any (fun y => PyData.eqv y x.py) = ds.any fun y => D.eqv y x
  | [] => rfl
  | d :: ds => by
    show (PyData.eqv d.py x.py || (D.pyL ds).any _) = _
    rw [any_pyL x ds]
    rfl
theorem one_sign {w : Str} (h : w.cps.size = 1) : w = ⟨#[w.cps.getD 0 0]⟩ := by
  obtain ⟨a⟩ := w
  have h' : a.size = 1 := h
  congr 1
  apply Array.ext
  · exact h'
  · intro i h1 h2
    have : i = 0 := by omega
    subst this
    show a[0] = a.getD 0 0
    rw [Array.getD_eq_getD_getElem?, Array.getElem?_eq_getElem h1]
    rfl
theorem in_s (neg : Bool) : OpS K (rInB K neg) (dIn neg) ta tb .im := fun H W x y da db d hx hy hta htb hf => by
  clear hta htb
  cases db <;> first | cases hf | skip
  · rename_i z
    cases da <;> first | cases hf | skip
    rename_i w
    have hf' : (if w.cps.size = 1 then some (D.bl (if neg = true then !decide (w.cps.getD 0 0 ∈ z.cps.toList) else decide (w.cps.getD 0 0 ∈ z.cps.toList))) else none) = some d := hf
    by_cases c : w.cps.size = 1
    · rw [if_pos c] at hf'
      cases hf'
      exact ⟨rfl, fun Q q => .inr ⟨_, z, by rw [hx.str]; exact congrArg V.str (one_sign c), hy.str, q _ H .refl rfl⟩⟩
    · rw [if_neg c] at hf'
      cases hf'
  · rename_i ds
    have hf' : (if (da.py.plain && PyData.plainAll (D.pyL ds) && decide (min (PyData.depthAll (D.pyL ds)) da.py.depth ≤ 150)) = true then some (D.bl (if neg = true then !ds.any (fun y => D.eqv y da) else ds.any fun y => D.eqv y da)) else none) = some d := hf
    by_cases c : (da.py.plain && PyData.plainAll (D.pyL ds) && decide (min (PyData.depthAll (D.pyL ds)) da.py.depth ≤ 150)) = true
    · rw [if_pos c] at hf'
      cases hf'
      rw [Bool.and_eq_true, Bool.and_eq_true, decide_eq_true_eq] at c
      exact ⟨rfl, fun Q q => .inl ⟨_, _, hx.dp c.1.1, .inr (Vw.dp (d := .tup ds) c.1.2 hy), c.1.1, c.1.2, c.2, by rw [any_pyL]; exact q _ H .refl rfl⟩⟩
    · rw [if_neg c] at hf'
      cases hf'
  · rename_i ds
    have hf' : (if (da.py.plain && PyData.plainAll (D.pyL ds) && decide (min (PyData.depthAll (D.pyL ds)) da.py.depth ≤ 150)) = true then some (D.bl (if neg = true then !ds.any (fun y => D.eqv y da) else ds.any fun y => D.eqv y da)) else none) = some d := hf
    by_cases c : (da.py.plain && PyData.plainAll (D.pyL ds) && decide (min (PyData.depthAll (D.pyL ds)) da.py.depth ≤ 150)) = true
    · rw [if_pos c] at hf'
      cases hf'
      rw [Bool.and_eq_true, Bool.and_eq_true, decide_eq_true_eq] at c
      exact ⟨rfl, fun Q q => .inl ⟨_, _, hx.dp c.1.1, .inl (Vw.dp (d := .lst ds) c.1.2 hy), c.1.1, c.1.2, c.2, by rw [any_pyL]; exact q _ H .refl rfl⟩⟩
    · rw [if_neg c] at hf'
      cases hf'
end
end VL
/-! VL9: built-in calls, chains, slices, comprehensions, methods of one's own lists. -/
namespace VL
open PySem L2

/-! ### built-in calls -/
def AK.tyG (Γ : Gx) : AK → Ty
  | .v t => t
  | .b i => match Γ[i]? with
    | some (.own t) => t
    | _ => .any
  | .o _ => .any
def AK.okG (Γ : Gx) : List AK → Bool
  | [] => true
  | .v _ :: ks => AK.okG Γ ks
  | .b i :: ks => (match Γ[i]? with
    | some (.own _) => true
    | _ => false) && AK.okG Γ ks
  | .o _ :: _ => false
def VwA (K : PySem.W.Frag) (H : Hp) (W : AS) : List Ty → List D → List V → Prop
  | [], ds, vs => ds = [] ∧ vs = []
  | t :: ts, ds, vs => ∃ d r v s, ds = d :: r ∧ vs = v :: s ∧ Vw K H W d v ∧ t.has d ∧ VwA K H W ts r s
theorem Pa.vw {K : PySem.W.Frag} {Γ : Gx} {U : AS} {ρ : List D} {σ : L2.St} {H : Hp} (R : Rel K Γ U ρ σ H) : ∀ {ks : List AK} {ds : List D} {vs : List V}, AK.okG Γ ks = true → Pa K ks ds vs σ H (Wa Γ σ U) → VwA K H (Wa Γ σ U) (ks.map (AK.tyG Γ)) (AK.resL ks ds ρ) vs
  | [], _, _, _, ⟨h1, h2⟩ => by rw [h1, h2]; exact ⟨rfl, rfl⟩
  | .v t :: ks, _, _, ok, ⟨d, r, v, s, h1, h2, h3, h4⟩ => by
    rw [h1, h2]
    exact ⟨d, AK.resL ks r ρ, v, s, rfl, rfl, .inl h3.1, h3.2, Pa.vw R (show AK.okG Γ ks = true from ok) h4⟩
  | .b i :: ks, _, _, ok, ⟨d, r, v, s, h1, h2, h3, h4⟩ => by
    have ok' : ((match Γ[i]? with | some (.own _) => true | _ => false) && AK.okG Γ ks) = true := ok
    rw [Bool.and_eq_true] at ok'
    cases e : Γ[i]? with
    | none => rw [e] at ok'; cases ok'.1
    | some sl =>
      cases sl with
      | un => rw [e] at ok'; cases ok'.1
      | fz _ => rw [e] at ok'; cases ok'.1
      | own t =>
        obtain ⟨d', a, k1, k2, k3, k4, _⟩ := R.own i t e
        have h3' : σ[i]? = some (some v) := h3
        rw [k2] at h3'
        cases h3'
        rw [h1, h2]
        refine ⟨ρ.getD i .non, AK.resL ks r ρ, .ref a, s, rfl, rfl, .inr ⟨a, rfl, by rw [getD_of k1]; exact k3⟩, ?_, Pa.vw R ok'.2 h4⟩
        show (match Γ[i]? with | some (.own t) => t | _ => Ty.any).has _
        rw [e, getD_of k1]
        exact k4
  | .o _ :: _, _, _, ok, _ => by cases ok
def CaS (K : PySem.W.Frag) (r : List V → Hp → VK → Prop) (f : List D → Option D) (ts : List Ty) (t : Ty) : Prop := ∀ (H : Hp) (W : AS) (xs : List V) (ds : List D) (d : D), VwA K H W ts ds xs → f ds = some d →
  t.has d ∧ ∀ Q : VK, (∀ v H', Ext H (fun _ => False) H' → Fz K H' W d v → Q v H') → r xs H Q
/-- .. that makes a new list -/
def CaN (K : PySem.W.Frag) (r : List V → Hp → VK → Prop) (f : List D → Option (List D)) (ts : List Ty) (t : Ty) : Prop := ∀ (H : Hp) (W : AS) (xs : List V) (ds es : List D), VwA K H W ts ds xs → f ds = some es →
  (∀ d ∈ es, t.has d) ∧ ∀ Q : VK, (∀ p vs, H p = none → FzL K H W es vs → Q (.ref p) (upd H p (.lst vs))) → r xs H Q
def eCB (f : List D → Option D) (ks : List AK) (ψ : EM (List D)) : EM D := fun ρ => (ψ ρ).bind fun ds ρ => liftO (f (AK.resL ks ds ρ)) ρ
def eCN (f : List D → Option (List D)) (ks : List AK) (ψ : EM (List D)) : EM D := fun ρ => (ψ ρ).bind fun ds ρ => liftO ((f (AK.resL ks ds ρ)).map D.lst) ρ
section
variable {X : Cx} {Z : Zx} {L : Lp} {Γ Γ' : Gx} {e : Expr} {es : List Expr} {φ : EM D} {ψ : EM (List D)} {t u : Ty} {pos p : Pos} {ks : List AK} {x : Str} {id T : String} {r : List V → Hp → VK → Prop} {f : List D → Option D} {fn : List D → Option (List D)}
theorem cb_core {σ : L2.St} {H : Hp} {Q : VK} (ok : AK.okG Γ ks = true) (hr : CaS Z.K r f (ks.map (AK.tyG Γ)) t) (h : Tof Z Γ (eCB f ks ψ) (Pf Z.K t) σ H Q) : tCB r (Tof Z Γ ψ (Pa Z.K ks)) σ H Q := by
  obtain ⟨ρ, U, R, q⟩ := h
  refine ⟨ρ, U, R, Aft.bind q fun ds ρ1 vs H1 e1 R1 pa q => ?_⟩
  have va := Pa.vw R1 ok pa
  cases hf : f (AK.resL ks ds ρ1) with
  | none =>
    rw [hf] at q
    exact q.elim
  | some d =>
    rw [hf] at q
    obtain ⟨td, hq⟩ := hr H1 _ vs _ d va hf
    exact hq Q fun v H3 e3 z => q v H3 (ext_mono e3) (R1.same e3) ⟨z, td⟩
theorem cn_core {σ : L2.St} {H : Hp} {Q : VK} (ok : AK.okG Γ ks = true) (hr : CaN Z.K r fn (ks.map (AK.tyG Γ)) t) (h : TofN Z Γ (eCN fn ks ψ) (.L t) σ H Q) : tCB r (Tof Z Γ ψ (Pa Z.K ks)) σ H Q := by
  obtain ⟨ρ, U, R, q⟩ := h
  refine ⟨ρ, U, R, AftN.bind q fun ds ρ1 vs H1 e1 R1 pa q => ?_⟩
  have va := Pa.vw R1 ok pa
  cases hf : fn (AK.resL ks ds ρ1) with
  | none =>
    rw [hf] at q
    exact q.elim
  | some es =>
    rw [hf] at q
    obtain ⟨td, hq⟩ := hr H1 _ vs _ es va hf
    exact hq Q fun p ws hp f => q p _ (Ext.new hp) hp (R1.new hp) (own_new R1 hp f) ⟨es, rfl, td⟩
theorem se_cb (hc : CallR X (.builtin id) r) (hr : CaS Z.K r f (ks.map (AK.tyG Γ)) t) (hg : Gl X x) (hm : X.mg x = none) (hv : bootBuiltins x = some (.builtin id)) (ha : SA X Z Γ (e :: es) ψ ks) (ok : AK.okG Γ ks = true := by rfl) (hn : x ≠ "__name__" := by decide) (hdb : (x == ("__debug__" : Str)) = false := by decide)
    (he : starEach (e :: es) X.env = (false, eval e X.env) :: starEach es X.env := by rfl) (hpl : (backTo pos (starEach es X.env)).any (·.1) = false := by rfl) : SE X Z Γ (.Call (.Name x p) (e :: es) [] pos) (eCB f ks ψ) t :=
  PE.imp (pe_callB hc hg hm hv ha hn hdb he hpl) fun _ _ _ h => cb_core ok hr h
theorem se_ct (hc : CallR X (.type T) r) (hr : CaS Z.K r f (ks.map (AK.tyG Γ)) t) (hg : Gl X x) (hm : X.mg x = none) (hv : bootBuiltins x = some (.type T)) (ha : SA X Z Γ (e :: es) ψ ks) (ok : AK.okG Γ ks = true := by rfl) (hn : x ≠ "__name__" := by decide) (hdb : (x == ("__debug__" : Str)) = false := by decide)
    (he : starEach (e :: es) X.env = (false, eval e X.env) :: starEach es X.env := by rfl) (hpl : (backTo pos (starEach es X.env)).any (·.1) = false := by rfl) : SE X Z Γ (.Call (.Name x p) (e :: es) [] pos) (eCB f ks ψ) t :=
  PE.imp (pe_callTy hc hg hm hv ha hn hdb he hpl) fun _ _ _ h => cb_core ok hr h
theorem sn_cb (hc : CallR X (.builtin id) r) (hr : CaN Z.K r fn (ks.map (AK.tyG Γ)) t) (hg : Gl X x) (hm : X.mg x = none) (hv : bootBuiltins x = some (.builtin id)) (ha : SA X Z Γ (e :: es) ψ ks) (ok : AK.okG Γ ks = true := by rfl) (hn : x ≠ "__name__" := by decide) (hdb : (x == ("__debug__" : Str)) = false := by decide)
    (he : starEach (e :: es) X.env = (false, eval e X.env) :: starEach es X.env := by rfl) (hpl : (backTo pos (starEach es X.env)).any (·.1) = false := by rfl) : SN X Z Γ (.Call (.Name x p) (e :: es) [] pos) (eCN fn ks ψ) (.L t) :=
  PE.imp (pe_callB hc hg hm hv ha hn hdb he hpl) fun _ _ _ h => cn_core ok hr h
theorem sn_ct (hc : CallR X (.type T) r) (hr : CaN Z.K r fn (ks.map (AK.tyG Γ)) t) (hg : Gl X x) (hm : X.mg x = none) (hv : bootBuiltins x = some (.type T)) (ha : SA X Z Γ (e :: es) ψ ks) (ok : AK.okG Γ ks = true := by rfl) (hn : x ≠ "__name__" := by decide) (hdb : (x == ("__debug__" : Str)) = false := by decide)
    (he : starEach (e :: es) X.env = (false, eval e X.env) :: starEach es X.env := by rfl) (hpl : (backTo pos (starEach es X.env)).any (·.1) = false := by rfl) : SN X Z Γ (.Call (.Name x p) (e :: es) [] pos) (eCN fn ks ψ) (.L t) :=
  PE.imp (pe_callTy hc hg hm hv ha hn hdb he hpl) fun _ _ _ h => cn_core ok hr h
/-- a module's constant -/
theorem se_glob {v : V} {uv : Value} {d : D} (hg : Gl X x) (hm : X.mg x = some uv) (r : RelV v uv) (hf : ∀ H W, Fz Z.K H W d v) (ht : t.has d) (hd : (x == ("__debug__" : Str)) = false := by decide) : SE X Z Γ (.Name x pos) (eC d) t := se_c (pe_glob hg hm r hd) hf ht
end
section
variable {K : PySem.W.Frag} {t u : Ty} {ts : List Ty}
theorem VwA.one {H : Hp} {W : AS} {ds : List D} {vs : List V} (h : VwA K H W [t] ds vs) : ∃ d v, ds = [d] ∧ vs = [v] ∧ Vw K H W d v ∧ t.has d := by
  obtain ⟨d, r, v, s, h1, h2, h3, h4, h5, h6⟩ := h
  exact ⟨d, v, by rw [h1, h5], by rw [h2, h6], h3, h4⟩
theorem VwA.two {H : Hp} {W : AS} {ds : List D} {vs : List V} (h : VwA K H W [t, u] ds vs) : ∃ d v d' v', ds = [d, d'] ∧ vs = [v, v'] ∧ Vw K H W d v ∧ t.has d ∧ Vw K H W d' v' ∧ u.has d' := by
  obtain ⟨d, r, v, s, h1, h2, h3, h4, h5⟩ := h
  obtain ⟨d', v', k1, k2, k3, k4⟩ := VwA.one h5
  exact ⟨d, v, d', v', by rw [h1, k1], by rw [h2, k2], h3, h4, k3, k4⟩
def fLen : List D → Option D
  | [.str z] => if z.length ≤ sizeLine then some (.int z.length) else none
  | [.lst ds] => some (.int ds.length)
  | [.tup ds] => some (.int ds.length)
  | _ => none
theorem len_s : CaS K (fun xs H Q => ∃ x n, xs = [x] ∧ LenV K x H n ∧ Q (.int n) H) fLen [t] .im := fun H W xs ds d h hf => by
  obtain ⟨d', v, rfl, rfl, hv, _⟩ := h.one
  cases d' with
  | str z =>
    have hf' : (if z.length ≤ sizeLine then some (D.int z.length) else none) = some d := hf
    by_cases c : z.length ≤ sizeLine
    · rw [if_pos c] at hf'
      cases hf'
      exact ⟨rfl, fun Q q => ⟨v, z.length, rfl, by rw [hv.str]; exact ⟨c, rfl⟩, q _ H .refl rfl⟩⟩
    · rw [if_neg c] at hf'
      cases hf'
  | lst es =>
    cases hf
    obtain ⟨a, xs, rfl, h1, h2⟩ := hv.lst
    exact ⟨rfl, fun Q q => ⟨_, es.length, rfl, .inl ⟨xs, h1, h2.length⟩, q _ H .refl rfl⟩⟩
  | tup es =>
    cases hf
    obtain ⟨a, xs, rfl, h1, h2⟩ := hv.tup
    exact ⟨rfl, fun Q q => ⟨_, es.length, rfl, .inr ⟨xs, h1.sq, h2.length⟩, q _ H .refl rfl⟩⟩
  | _ => cases hf
def fMax : List D → Option D
  | [.int i, .int j] => some (.int (if j > i then j else i))
  | _ => none
def fMin : List D → Option D
  | [.int i, .int j] => some (.int (if j < i then j else i))
  | _ => none
theorem max_s : CaS K (fun xs H Q => ∃ i j, xs = [.int i, .int j] ∧ Q (.int (if j > i then j else i)) H) fMax [t, u] .im := fun H W xs ds d h hf => by
  obtain ⟨d1, v1, d2, v2, rfl, rfl, h1, _, h2, _⟩ := h.two
  cases d1 with
  | int i =>
    cases d2 with
    | int j =>
      cases hf
      exact ⟨rfl, fun Q q => ⟨i, j, by rw [h1.int, h2.int], q _ H .refl rfl⟩⟩
    | _ => cases hf
  | _ => cases hf
theorem min_s : CaS K (fun xs H Q => ∃ i j, xs = [.int i, .int j] ∧ Q (.int (if j < i then j else i)) H) fMin [t, u] .im := fun H W xs ds d h hf => by
  obtain ⟨d1, v1, d2, v2, rfl, rfl, h1, _, h2, _⟩ := h.two
  cases d1 with
  | int i =>
    cases d2 with
    | int j =>
      cases hf
      exact ⟨rfl, fun Q q => ⟨i, j, by rw [h1.int, h2.int], q _ H .refl rfl⟩⟩
    | _ => cases hf
  | _ => cases hf
def fStr : List D → Option D
  | [.int i] => if i.natAbs.log2 < 1920 then some (.str (toString i)) else none
  | [.str z] => some (.str z)
  | _ => none
theorem call_strB {X : Cx} : CallR X (.type "str") (fun xs H Q => (∃ i, xs = [.int i] ∧ i.natAbs.log2 < 1920 ∧ Q (.str (toString i)) H) ∨ ∃ a, xs = [.str a] ∧ Q (.str a) H) := fun pins s σ H xs us Q I r h =>
  h.elim (fun h => call_str_int pins s σ H xs us Q I r h) (fun h => SkE.call_str_str pins s σ H xs us Q I r h)
theorem str_s : CaS K (fun xs H Q => (∃ i, xs = [.int i] ∧ i.natAbs.log2 < 1920 ∧ Q (.str (toString i)) H) ∨ ∃ a, xs = [.str a] ∧ Q (.str a) H) fStr [t] .im := fun H W xs ds d h hf => by
  obtain ⟨d', v, rfl, rfl, hv, _⟩ := h.one
  cases d' with
  | int i =>
    have hf' : (if i.natAbs.log2 < 1920 then some (D.str (toString i)) else none) = some d := hf
    by_cases c : i.natAbs.log2 < 1920
    · rw [if_pos c] at hf'
      cases hf'
      exact ⟨rfl, fun Q q => .inl ⟨i, by rw [hv.int], c, q _ H .refl rfl⟩⟩
    · rw [if_neg c] at hf'
      cases hf'
  | str z =>
    cases hf
    exact ⟨rfl, fun Q q => .inr ⟨z, by rw [hv.str], q _ H .refl rfl⟩⟩
  | _ => cases hf
def fInt : List D → Option D
  | [.int i] => some (.int i)
  | [.bl k] => some (.int (if k then 1 else 0))
  | _ => none
theorem int_s : CaS K (fun xs H Q => (∃ i, xs = [.int i] ∧ Q (.int i) H) ∨ ∃ k, xs = [.bl k] ∧ Q (.int (if k then 1 else 0)) H) fInt [t] .im := fun H W xs ds d h hf => by
  obtain ⟨d', v, rfl, rfl, hv, _⟩ := h.one
  cases d' with
  | int i =>
    cases hf
    exact ⟨rfl, fun Q q => .inl ⟨i, by rw [hv.int], q _ H .refl rfl⟩⟩
  | bl k =>
    cases hf
    exact ⟨rfl, fun Q q => .inr ⟨k, by rw [hv.bl], q _ H .refl rfl⟩⟩
  | _ => cases hf
def fAbs : List D → Option D
  | [.int i] => some (.int (if i < 0 then -i else i))
  | _ => none
theorem abs_s : CaS K (fun xs H Q => ∃ i, xs = [.int i] ∧ Q (.int (if i < 0 then -i else i)) H) fAbs [t] .im := fun H W xs ds d h hf => by
  obtain ⟨d', v, rfl, rfl, hv, _⟩ := h.one
  cases d' with
  | int i =>
    cases hf
    exact ⟨rfl, fun Q q => ⟨i, by rw [hv.int], q _ H .refl rfl⟩⟩
  | _ => cases hf
def fSeq : List D → Option (List D)
  | [.lst ds] => some ds
  | [.tup ds] => some ds
  | _ => none
/-- list(..) -/
theorem list_s : CaN K (fun xs H Q => ∃ p ys, xs = [.ref p] ∧ (SqL K H p ys ∨ SqT K H p ys) ∧ ∀ l, H l = none → Q (.ref l) (upd H l (.lst ys))) fSeq [t] (elems t) := fun H W xs ds es h hf => by
  obtain ⟨d', v, rfl, rfl, hv, ht⟩ := h.one
  cases d' with
  | lst fs =>
    cases hf
    obtain ⟨a, xs, rfl, h1, h2⟩ := hv.lst
    exact ⟨elems_has ht (.inl rfl), fun Q q => ⟨a, xs, rfl, .inl h1, fun l hl => q l xs hl h2⟩⟩
  | tup fs =>
    cases hf
    obtain ⟨a, xs, rfl, h1, h2⟩ := hv.tup
    refine ⟨fun x hx => ?_, fun Q q => ⟨a, xs, rfl, .inr h1.sq, fun l hl => q l xs hl h2⟩⟩
    cases t with
    | im => exact immL_mem (show D.immL es = true from ht) hx
    | any => trivial
    | L t => obtain ⟨_, e, _⟩ := ht; cases e
    | M t => trivial
    | T ts => trivial
  | _ => cases hf
/-- tuple(..) -/
def fTup : List D → Option D
  | [.lst ds] => some (.tup ds)
  | [.tup ds] => some (.tup ds)
  | _ => none
def tupTy : Ty → Ty
  | .im => .im
  | .L .im => .im
  | .T ts => .T ts
  | _ => .any
theorem tuple_s : CaS K (fun xs H Q => ∃ p ys, xs = [.ref p] ∧ ((SqL K H p ys ∧ ∀ l, H l = none → Q (.ref l) (upd H l (.tup ys))) ∨ (SqT K H p ys ∧ Q (.ref p) H))) fTup [t] (tupTy t) := fun H W xs ds d h hf => by
  obtain ⟨d', v, rfl, rfl, hv, ht⟩ := h.one
  cases d' with
  | lst fs =>
    cases hf
    obtain ⟨a, xs, rfl, h1, h2⟩ := hv.lst
    refine ⟨?_, fun Q q => ⟨a, xs, rfl, .inl ⟨h1, fun l hl => q _ _ (Ext.new hl) ⟨l, xs, rfl, .inl upd_same, FzL.ext (fun _ z => z.elim) (Ext.new (W := fun _ => False) hl) h2⟩⟩⟩⟩
    cases t with
    | im => cases ht
    | any => trivial
    | M t => trivial
    | T ts => obtain ⟨_, e, _⟩ := ht; cases e
    | L t =>
      cases t with
      | im =>
        obtain ⟨_, e, hh⟩ := ht
        cases e
        exact immL_of hh
      | _ => trivial
  | tup fs =>
    cases hf
    obtain ⟨a, xs, rfl, h1, h2⟩ := hv.tup
    refine ⟨?_, fun Q q => ⟨a, xs, rfl, .inr ⟨h1.sq, q _ H .refl ⟨a, xs, rfl, h1, h2⟩⟩⟩⟩
    cases t with
    | im => exact ht
    | any => trivial
    | M t => trivial
    | T ts => exact ht
    | L t => obtain ⟨_, e, _⟩ := ht; cases e
  | _ => cases hf
end

/-! ### isinstance -/
section
variable {X : Cx} {Z : Zx} {L : Lp} {Γ Γ' : Gx} {e a b c : Expr} {φ φa φb φc : EM D} {ψ : EM (List D)} {t u ta tb tc : Ty} {pos p : Pos} {k ka kb kc : Od}
def D.cls : D → String
  | .non => "NoneType"
  | .bl _ => "bool"
  | .int _ => "int"
  | .str _ => "str"
  | .tup _ => "tuple"
  | .lst _ => "list"
  | .dic _ => "dict"
def isCls (T : String) (d : D) : Bool := d.cls == T || (d.cls == "bool" && T == "int")
def clsOk (T : String) : Bool := ["NoneType", "bool", "int", "str", "tuple", "list", "dict"].all fun c => decide (kitB c T = some (c == T || (c == "bool" && T == "int")))
theorem TyX.of_vw {K : PySem.W.Frag} {H : Hp} {W : AS} {d : D} {v : V} (h : Vw K H W d v) : TyX K H v (.type d.cls) := by
  cases d with
  | non => rw [show v = .non from (h.non_iff.mpr rfl)]; exact .base .non
  | bl b => rw [h.bl]; exact .base (.bl b)
  | int b => rw [h.int]; exact .base (.int b)
  | str b => rw [h.str]; exact .base (.str b)
  | tup ds =>
    obtain ⟨a, xs, rfl, h1, _⟩ := h.tup
    rcases h1 with h1 | ⟨o, its, n, h1, h2, _⟩
    · exact .base (.tup h1)
    · exact .kTuple h1 h2
  | lst ds =>
    obtain ⟨a, xs, rfl, h1, _⟩ := h.lst
    rcases h1 with (h1 | ⟨o, h1⟩) | ⟨o, its, n, h1, h2, _⟩
    · exact .base (.lst h1)
    · exact .base (.frz h1)
    · exact .kList h1 h2
  | dic ds =>
    rcases h with ⟨a, ks, rfl, h1 | ⟨o, h1⟩, _⟩ | ⟨a, rfl, ⟨_, _, e, _⟩ | ⟨_, ks, e, h1, _⟩⟩
    · exact .base (.dK h1)
    · exact .fDict h1
    · cases e
    · exact .base (.dK h1)
def eIsi (T : String) (k : Od) (φ : EM D) : EM D := fun ρ => (φ ρ).bind fun d ρ => .ok (.bl (isCls T (k.res d ρ))) ρ
theorem se_isi {T : String} {xT : Str} {pT pI : Pos} (hgI : Gl X "isinstance") (hmI : X.mg "isinstance" = none) (hgT : Gl X xT) (hmT : X.mg xT = none) (hvT : bootBuiltins xT = some (.type T)) (hk : k.ok Γ t) (h : SO X Z Γ e φ k) (hc : clsOk T = true := by decide +kernel)
    (hnT : xT ≠ "__name__" := by decide) (hdT : (xT == ("__debug__" : Str)) = false := by decide) (hs : starEach [e, .Name xT pT] X.env = (false, eval e X.env) :: starEach [.Name xT pT] X.env := by rfl) (hs2 : starEach [.Name xT pT] X.env = (false, eval (.Name xT pT) X.env) :: starEach [] X.env := by rfl)
    (hpl : (backTo pos (starEach [.Name xT pT] X.env)).any (·.1) = false := by rfl) (hK : Z.K = X.K := by rfl) :
    SE X Z Γ (.Call (.Name "isinstance" pI) [e, .Name xT pT] [] pos) (eIsi T k φ) .im := PE.imp (pe_callB call_isi hgI hmI (by decide +kernel) (pa_cons h (pa_cons (pe_bltn hgT hmT hvT (v := .ty T) rfl hnT hdT) pa_nil hs2) hs) (by decide) (by decide) hs hpl) fun σ H Q ⟨ρ, U, R, q⟩ =>
  ⟨ρ, U, R, Aft.bind q fun d ρ1 v H1 e1 R1 p1 q => by
    obtain ⟨vw, td⟩ := Od.vw hk R1 p1
    refine ⟨v, .ty T, .type (k.res d ρ1).cls, .type T, isCls T (k.res d ρ1), rfl, .ty T, hK ▸ TyX.of_vw vw, ?_, q _ H1 .refl R1 ⟨rfl, rfl⟩⟩
    refine kit_ty ?_
    have := List.all_eq_true.mp (show (["NoneType", "bool", "int", "str", "tuple", "list", "dict"].all fun c => decide (kitB c T = some (c == T || (c == "bool" && T == "int")))) = true from hc) (k.res d ρ1).cls (by cases (k.res d ρ1) <;> simp [D.cls])
    exact of_decide_eq_true this⟩

/-! ### chains of two comparisons -/
def eChn (f g : D → D → Option D) (ka : Od) (φa : EM D) (kb : Od) (φb : EM D) (kc : Od) (φc : EM D) : EM D := fun ρ => (φa ρ).bind fun x ρ => (φb ρ).bind fun y ρ => match f (ka.res x ρ) (kb.res y ρ) with
  | some (.bl true) => (φc ρ).bind fun z ρ => liftO (g (kb.res y ρ) (kc.res z ρ)) ρ
  | some (.bl false) => .ok (.bl false) ρ
  | _ => .bad
theorem chn_core {f g : D → D → Option D} {r r' : R2} (hka : ka.ok Γ ta) (hkb : kb.ok Γ tb) (hkc : kc.ok Γ tc) (hr : OpS Z.K r f ta tb .im) (hr' : OpS Z.K r' g tb tc .im) {σ : L2.St} {H : Hp} {Q : VK} (h : Tof Z Γ (eChn f g ka φa kb φb kc φc) (Pf Z.K .im) σ H Q) :
    tChain r r' (Tof Z Γ φa (ka.P Z.K)) (Tof Z Γ φb (kb.P Z.K)) (Tof Z Γ φc (kc.P Z.K)) σ H Q := by
  obtain ⟨ρ, U, R, q⟩ := h
  refine ⟨ρ, U, R, Aft.bind q fun da ρ1 x H1 e1 R1 p1 q => ⟨ρ1, U, R1, Aft.bind q fun db ρ2 y H2 e2 R2 p2 q => ?_⟩⟩
  obtain ⟨vx, tx⟩ := Od.vw hka R2 (Od.keep p1 e2)
  obtain ⟨vy, ty⟩ := Od.vw hkb R2 p2
  cases hf : f (ka.res da ρ2) (kb.res db ρ2) with
  | none =>
    rw [hf] at q
    exact q.elim
  | some d =>
    rw [hf] at q
    obtain ⟨td, hq⟩ := hr H2 _ x y _ _ d vx vy tx ty hf
    refine hq _ fun v H3 e3 z => ?_
    cases d with
    | bl k =>
      refine ⟨k, z, ?_⟩
      cases k with
      | false => exact q _ H3 (ext_mono e3) (R2.same e3) ⟨rfl, rfl⟩
      | true =>
        have q' := Aft.later q (ext_mono e3)
        refine ⟨ρ2, U, R2.same e3, Aft.bind q' fun dc ρ3 w H4 e4 R4 p4 q => ?_⟩
        obtain ⟨vy', ty'⟩ := Od.vw hkb R4 (Od.keep p2 ((ext_mono e3).trans e4))
        obtain ⟨vw, tw⟩ := Od.vw hkc R4 p4
        cases hg : g (kb.res db ρ3) (kc.res dc ρ3) with
        | none =>
          rw [hg] at q
          exact q.elim
        | some d' =>
          rw [hg] at q
          obtain ⟨td', hq'⟩ := hr' H4 _ y w _ _ d' vy' vw ty' tw hg
          exact hq' Q fun v' H5 e5 z' => q v' H5 (ext_mono e5) (R4.same e5) ⟨z', td'⟩
    | _ => exact q.elim
theorem se_chn {op op' : CmpOp} {f g : D → D → Option D} {r r' : R2} (ho : OpR X (compareOp op) r) (ho' : OpR X (compareOp op') r') (hr : OpS Z.K r f ta tb .im) (hr' : OpS Z.K r' g tb tc .im) (ha : SO X Z Γ a φa ka) (hb : SO X Z Γ b φb kb) (hc : SO X Z Γ c φc kc)
    (hm : lastMarks [op, op'] [b, c] = false) (hka : ka.ok Γ ta := by rfl) (hkb : kb.ok Γ tb := by rfl) (hkc : kc.ok Γ tc := by rfl) : SE X Z Γ (.Compare a [op, op'] [b, c] pos) (eChn f g ka φa kb φb kc φc) .im :=
  PE.imp (pe_chain ho ho' ha hb hc hm) fun _ _ _ h => chn_core hka hkb hkc hr hr' h
theorem st_chn {op op' : CmpOp} {f g : D → D → Option D} {r r' : R2} (ho : OpR X (compareOp op) r) (ho' : OpR X (compareOp op') r') (hr : OpS Z.K r f ta tb .im) (hr' : OpS Z.K r' g tb tc .im) (ha : SO X Z Γ a φa ka) (hb : SO X Z Γ b φb kb) (hc : SO X Z Γ c φc kc)
    (hm : lastMarks [op, op'] [b, c] = false) (hka : ka.ok Γ ta := by rfl) (hkb : kb.ok Γ tb := by rfl) (hkc : kc.ok Γ tc := by rfl) : ST X Z Γ (.Compare a [op, op'] [b, c] pos) (eT (eChn f g ka φa kb φb kc φc)) :=
  PT.imp (pt_chain ho ho' ha hb hc hm) fun _ _ _ h => chn_core hka hkb hkc hr hr' (tst h)
end
end VL
/-! VL10: the ends. -/
namespace VL
open PySem L2

def XR0 : Str → D → Value → Option Addr → Hp → Prop := fun _ _ _ _ _ => False
/-- at level 0 nothing is promised -/
theorem fn_zero {P : Program} {w : World} {K : PySem.W.Frag} {mg : Str → Option Value} {base : Heap} {CX : CXT} {f : Addr} {fd : FuncData} {ps : List Str} {XR : Str → D → Value → Option Addr → Hp → Prop} {sg : Gx} {rk : RK} {m : List D → R D} (h : ∀ ds, m ds = .bad) (hl : (sg.length == ps.length) = true) {k : Nat} :
    FnOk P w K mg base CX k f fd ps (spF K XR sg rk m) :=
  ⟨fun vs H Q E ⟨ds, U, hl', _, _⟩ => hl'.trans (beq_iff_eq.mp hl), fun A outer s H args us vs Q E _ _ _ _ ⟨ds, U, _, _, q⟩ => by
    rw [h ds] at q
    exact q.elim⟩
/-- a def of the text that raises nothing -/
theorem fn_body {P : Program} {w : World} {K : PySem.W.Frag} {mg : Str → Option Value} {base : Heap} {x qual : Str} {st : Stmt} {f : Addr} {fd : FuncData} {N ps : List Str} {k : Nat} {sg : Gx} {rk : RK} {fall : Bool} {β : SM} {m : List D → R D} {XR : Str → D → Value → Option Addr → Hp → Prop}
    (F : Fun K x qual st f fd) (S : FnScope N ps (defScope st)) (hm : m = mkF fall N.length sg.length β) (hl : (sg.length == ps.length) = true) (hN : decide (sg.length ≤ N.length) = true) (hf : (!fall || rk.non) = true)
    (h : ∀ (cdv : Value) (A : Around) (outer : List Env) (s : Shared) (H : Hp) (E : XK), Room k (A.deeper (PyProof.Rows.envOfC qual (defScope st) s.heap.objs.size f cdv)) →
      SSs (cxOf CX0 P w K mg base N qual (defScope st) f cdv A outer s H E).nox ⟨K, XR, fun cls od _ H => E cls od H, padG (ioG sg) N.length, padG (ioG sg) N.length, rk⟩ ⟨[], []⟩ (padG sg N.length) (padG (ioG sg) N.length) (defBody st) β) :
    FnOk P w K mg base CX0 (k + 1) f fd ps (spF K XR sg rk m) := by
  subst hm
  refine F.ok S (fun vs H Q E ⟨ds, U, hl', _, _⟩ => hl'.trans (beq_iff_eq.mp hl)) (fun cdv A outer s H vs Q E hr hsp => ?_)
  exact ⟨_, h cdv A outer s H E hr, def_core (of_decide_eq_true hN) hf hsp⟩
theorem fzL_ints {K : PySem.W.Frag} {H : Hp} {W : AS} : ∀ ns : List Int, FzL K H W (ns.map D.int) (ns.map V.int)
  | [] => rfl
  | n :: ns => ⟨.int n, ns.map V.int, rfl, rfl, fzL_ints ns⟩
/-- the law's own promise, from what its mirror answers -/
theorem law_sp {K : PySem.W.Frag} {H : Hp} {a : Addr} {ns : List Int} {m : List D → R D} {outs : List D} {XR : Str → D → Value → Option Addr → Hp → Prop} (hS : SqL K H a (ns.map V.int)) (h : m [.lst (ns.map D.int)] = .ok (.bl true) outs) :
    spF K XR [.fz (.L .im)] (.fz .im) m [.ref a] H (fun v _ => v = .bl true) fun _ _ _ => False := by
  have now : ∀ x, ¬ Wr [Slot.fz (.L .im)] [some (V.ref a)] x := fun x ⟨i, t, h1, _⟩ => by
    cases i with
    | zero => cases h1
    | succ i => simp at h1
  refine ⟨[.lst (ns.map D.int)], fun _ => False, rfl, ⟨rfl, rfl, fun i t e => ?_, fun i t e => ?_, fun i j t u b e _ _ _ => ?_, fun _ z => z.elim⟩, ?_⟩
  · cases i with
    | zero =>
      cases e
      refine ⟨_, _, rfl, rfl, ⟨a, _, rfl, hS.imp (fun h => ⟨h, fun z => z.elim (now a) id⟩) id, fzL_ints ns⟩, _, rfl, fun d hd => ?_⟩
      obtain ⟨n, _, rfl⟩ := List.mem_map.mp hd
      rfl
    | succ i => simp at e
  · cases i with
    | zero => cases e
    | succ i => simp at e
  · cases i with
    | zero => cases e
    | succ i => simp at e
  · rw [h]
    exact fun v H' _ r => r.2.1
end VL
/-! VL11: and, or, not as values; small rules. -/
namespace VL
open PySem L2
section
variable {X : Cx} {Z : Zx} {L : Lp} {Γ Γ' : Gx} {e a b : Expr} {rest : List Expr} {φ φa φb : EM D} {ψ : EM (List D)} {t u ta tb : Ty} {pos : Pos}
def eAndV (φa φb : EM D) : EM D := fun ρ => (φa ρ).bind fun d ρ => match d with
  | .bl true => φb ρ
  | .bl false => .ok (.bl false) ρ
  | _ => .bad
def eOrV (φa φb : EM D) : EM D := fun ρ => (φa ρ).bind fun d ρ => match d with
  | .bl true => .ok (.bl true) ρ
  | .bl false => φb ρ
  | _ => .bad
def eNotV (φ : EM D) : EM D := fun ρ => (φ ρ).bind fun d ρ => match d with
  | .bl k => .ok (.bl (!k)) ρ
  | _ => .bad
theorem se_and1 {op : BoolOp} (h : SE X Z Γ a φ t) : SE X Z Γ (.BoolOp op [a] pos) φ t := pe_one h
theorem se_and (ha : SE X Z Γ a φa ta) (hb : SE X Z Γ (.BoolOp .And (b :: rest) pos) φb .im) : SE X Z Γ (.BoolOp .And (a :: b :: rest) pos) (eAndV φa φb) .im := PE.imp (pe_and ha hb) fun σ H Q ⟨ρ, U, R, q⟩ =>
  ⟨ρ, U, R, Aft.bind q fun d ρ1 v H1 e1 R1 p1 q => by
    cases d with
    | bl k =>
      refine ⟨k, p1.1, ?_⟩
      cases k with
      | false => exact q _ H1 .refl R1 ⟨rfl, rfl⟩
      | true => exact ⟨ρ1, U, R1, q⟩
    | _ => exact q.elim⟩
theorem se_or (ha : SE X Z Γ a φa ta) (hb : SE X Z Γ (.BoolOp .Or (b :: rest) pos) φb .im) : SE X Z Γ (.BoolOp .Or (a :: b :: rest) pos) (eOrV φa φb) .im := PE.imp (pe_or ha hb) fun σ H Q ⟨ρ, U, R, q⟩ =>
  ⟨ρ, U, R, Aft.bind q fun d ρ1 v H1 e1 R1 p1 q => by
    cases d with
    | bl k =>
      refine ⟨k, p1.1, ?_⟩
      cases k with
      | true => exact q _ H1 .refl R1 ⟨rfl, rfl⟩
      | false => exact ⟨ρ1, U, R1, q⟩
    | _ => exact q.elim⟩
theorem se_not (h : SE X Z Γ a φ t) : SE X Z Γ (.UnaryOp .Not a pos) (eNotV φ) .im := PE.imp (pe_not h) fun σ H Q ⟨ρ, U, R, q⟩ =>
  ⟨ρ, U, R, Aft.bind q fun d ρ1 v H1 e1 R1 p1 q => by
    cases d with
    | bl k => exact ⟨k, p1.1, q _ H1 .refl R1 ⟨rfl, rfl⟩⟩
    | _ => exact q.elim⟩
end
end VL
namespace VL
open PySem L2
theorem passZ {X : Cx} {E : XK} : Passes CX0 X E := fun _ _ _ _ _ _ _ h => h.elim
end VL
/-! VL12: how the mirror is reckoned. -/
namespace VL
open PySem L2
@[simp] theorem bind_ok {α β : Type} (a : α) (ρ : List D) (f : α → List D → R β) : (R.ok a ρ).bind f = f a ρ := (rfl)
@[simp] theorem bind_exc {α β : Type} (c : Str) (p : D) (ρ : List D) (f : α → List D → R β) : (R.exc c p ρ : R α).bind f = .exc c p ρ := (rfl)
@[simp] theorem bind_bad {α β : Type} (f : α → List D → R β) : (R.bad : R α).bind f = .bad := (rfl)
@[simp] theorem eVar_r (i : Nat) (ρ : List D) : eVar i ρ = .ok (ρ.getD i .non) ρ := (rfl)
@[simp] theorem eC_r (d : D) (ρ : List D) : eC d ρ = .ok d ρ := (rfl)
@[simp] theorem eSl_r (ρ : List D) : eSl ρ = .ok .non ρ := (rfl)
@[simp] theorem eUn_r (f : D → Option D) (k : Od) (φ : EM D) (ρ : List D) : eUn f k φ ρ = (φ ρ).bind fun d ρ => liftO (f (k.res d ρ)) ρ := (rfl)
@[simp] theorem eBin_r (f : D → D → Option D) (ka kb : Od) (φa φb : EM D) (ρ : List D) : eBin f ka φa kb φb ρ = (φa ρ).bind fun x ρ => (φb ρ).bind fun y ρ => liftO (f (ka.res x ρ) (kb.res y ρ)) ρ := (rfl)
@[simp] theorem liftO_some {α : Type} (a : α) (ρ : List D) : liftO (some a) ρ = .ok a ρ := (rfl)
@[simp] theorem liftO_none {α : Type} (ρ : List D) : liftO (none : Option α) ρ = .bad := (rfl)
@[simp] theorem Od_v (t : Ty) (d : D) (ρ : List D) : (Od.v t).res d ρ = d := (rfl)
@[simp] theorem Od_s (i : Nat) (d : D) (ρ : List D) : (Od.s i).res d ρ = ρ.getD i .non := (rfl)
@[simp] theorem eT_r (φ : EM D) (ρ : List D) : eT φ ρ = (φ ρ).bind asB := (rfl)
@[simp] theorem asB_r (b : Bool) (ρ : List D) : asB (.bl b) ρ = .ok b ρ := (rfl)
@[simp] theorem eNotT_r (φ : EM Bool) (ρ : List D) : eNotT φ ρ = (φ ρ).bind fun b ρ => .ok (!b) ρ := (rfl)
@[simp] theorem eAndT_r (φ ψ : EM Bool) (ρ : List D) : eAndT φ ψ ρ = (φ ρ).bind fun b ρ => if b = true then ψ ρ else .ok false ρ := (rfl)
@[simp] theorem eOrT_r (φ ψ : EM Bool) (ρ : List D) : eOrT φ ψ ρ = (φ ρ).bind fun b ρ => if b = true then .ok true ρ else ψ ρ := (rfl)
@[simp] theorem eIf_r (ψ : EM Bool) (a b : EM D) (ρ : List D) : eIf ψ a b ρ = (ψ ρ).bind fun k ρ => if k = true then a ρ else b ρ := (rfl)
theorem eNotV_r (φ : EM D) (b : Bool) (ρ ρ' : List D) (h : φ ρ = .ok (.bl b) ρ') : eNotV φ ρ = .ok (.bl (!b)) ρ' := by unfold eNotV; rw [h]; rfl
theorem eAndV_r (φ ψ : EM D) (b : Bool) (ρ ρ' : List D) (h : φ ρ = .ok (.bl b) ρ') : eAndV φ ψ ρ = if b = true then ψ ρ' else .ok (.bl false) ρ' := by unfold eAndV; rw [h]; cases b <;> rfl
theorem eOrV_r (φ ψ : EM D) (b : Bool) (ρ ρ' : List D) (h : φ ρ = .ok (.bl b) ρ') : eOrV φ ψ ρ = if b = true then .ok (.bl true) ρ' else ψ ρ' := by unfold eOrV; rw [h]; cases b <;> rfl
@[simp] theorem eNil_r (ρ : List D) : eNil ρ = .ok [] ρ := (rfl)
@[simp] theorem eCons_r (φ : EM D) (ψ : EM (List D)) (ρ : List D) : eCons φ ψ ρ = (φ ρ).bind fun d ρ => (ψ ρ).bind fun ds ρ => .ok (d :: ds) ρ := (rfl)
@[simp] theorem eTup_r (ψ : EM (List D)) (ρ : List D) : eTup ψ ρ = (ψ ρ).bind fun ds ρ => .ok (.tup ds) ρ := (rfl)
@[simp] theorem eLst_r (ψ : EM (List D)) (ρ : List D) : eLst ψ ρ = (ψ ρ).bind fun ds ρ => .ok (.lst ds) ρ := (rfl)
@[simp] theorem eCB_r (f : List D → Option D) (ks : List AK) (ψ : EM (List D)) (ρ : List D) : eCB f ks ψ ρ = (ψ ρ).bind fun ds ρ => liftO (f (AK.resL ks ds ρ)) ρ := (rfl)
@[simp] theorem eCN_r (f : List D → Option (List D)) (ks : List AK) (ψ : EM (List D)) (ρ : List D) : eCN f ks ψ ρ = (ψ ρ).bind fun ds ρ => liftO ((f (AK.resL ks ds ρ)).map D.lst) ρ := (rfl)
@[simp] theorem resL_v (t : Ty) (ks : List AK) (d : D) (ds ρ : List D) : AK.resL (.v t :: ks) (d :: ds) ρ = d :: AK.resL ks ds ρ := (rfl)
@[simp] theorem resL_b (i : Nat) (ks : List AK) (d : D) (ds ρ : List D) : AK.resL (.b i :: ks) (d :: ds) ρ = ρ.getD i .non :: AK.resL ks ds ρ := (rfl)
@[simp] theorem resL_o (i : Nat) (ks : List AK) (d : D) (ds ρ : List D) : AK.resL (.o i :: ks) (d :: ds) ρ = ρ.getD i .non :: AK.resL ks ds ρ := (rfl)
@[simp] theorem resL_n (ds ρ : List D) : AK.resL [] ds ρ = [] := by cases ds <;> rfl
@[simp] theorem back_n (outs ρ : List D) : AK.back [] outs ρ = ρ := by cases outs <;> rfl
@[simp] theorem back_v (t : Ty) (ks : List AK) (d : D) (ds ρ : List D) : AK.back (.v t :: ks) (d :: ds) ρ = AK.back ks ds ρ := (rfl)
@[simp] theorem back_b (i : Nat) (ks : List AK) (d : D) (ds ρ : List D) : AK.back (.b i :: ks) (d :: ds) ρ = AK.back ks ds ρ := (rfl)
@[simp] theorem back_o (i : Nat) (ks : List AK) (d : D) (ds ρ : List D) : AK.back (.o i :: ks) (d :: ds) ρ = AK.back ks ds (ρ.set i d) := (rfl)
theorem eCall_ok {m : List D → R D} {ks : List AK} {dds : List D} {ψ : EM (List D)} {ρ ρ' ds outs : List D} {d : D} (h : ψ ρ = .ok ds ρ') (h2 : m (AK.resL ks ds ρ' ++ dds) = .ok d outs) : eCall m ks dds ψ ρ = .ok d (AK.back ks outs ρ') := by
  unfold eCall; rw [h]; show (match m (AK.resL ks ds ρ' ++ dds) with | .ok d outs => R.ok d (AK.back ks outs ρ') | .exc c p outs => .exc c p (AK.back ks outs ρ') | .bad => .bad) = _; rw [h2]
/-- back from a call -/
def backR (ks : List AK) (ρ : List D) : R D → R D
  | .ok d outs => .ok d (AK.back ks outs ρ)
  | .exc c p outs => .exc c p (AK.back ks outs ρ)
  | .bad => .bad
@[simp] theorem backR_ok (ks : List AK) (ρ : List D) (d : D) (outs : List D) : backR ks ρ (.ok d outs) = .ok d (AK.back ks outs ρ) := (rfl)
@[simp] theorem backR_ite (ks : List AK) (ρ : List D) (c : Prop) [Decidable c] (a b : R D) : backR ks ρ (if c then a else b) = if c then backR ks ρ a else backR ks ρ b := by split <;> rfl
@[simp] theorem eCall_r (m : List D → R D) (ks : List AK) (dds : List D) (ψ : EM (List D)) (ρ : List D) : eCall m ks dds ψ ρ = (ψ ρ).bind fun ds ρ => backR ks ρ (m (AK.resL ks ds ρ ++ dds)) := by
  unfold eCall
  congr 1
@[simp] theorem sNx_r (ρ : List D) : sNx ρ = .ok .nx ρ := (rfl)
@[simp] theorem sBk_r (ρ : List D) : sBk ρ = .ok .bk ρ := (rfl)
@[simp] theorem sCt_r (ρ : List D) : sCt ρ = .ok .ct ρ := (rfl)
@[simp] theorem sSet_r (i : Nat) (φ : EM D) (ρ : List D) : sSet i φ ρ = (φ ρ).bind fun d ρ => .ok .nx (ρ.set i d) := (rfl)
@[simp] theorem sRet_r (φ : EM D) (ρ : List D) : sRet φ ρ = (φ ρ).bind fun d ρ => .ok (.rt d) ρ := (rfl)
@[simp] theorem sDo_r (φ : EM D) (ρ : List D) : sDo φ ρ = (φ ρ).bind fun _ ρ => .ok .nx ρ := (rfl)
@[simp] theorem sIf_r (ψ : EM Bool) (β γ : SM) (ρ : List D) : sIf ψ β γ ρ = (ψ ρ).bind fun b ρ => if b = true then β ρ else γ ρ := (rfl)
/-- what follows a way that ends so -/
def nxt (γ : SM) : Fl → List D → R Fl
  | .nx, ρ => γ ρ
  | .rt d, ρ => .ok (.rt d) ρ
  | .bk, ρ => .ok .bk ρ
  | .ct, ρ => .ok .ct ρ
@[simp] theorem nxt_nx (γ : SM) (ρ : List D) : nxt γ .nx ρ = γ ρ := (rfl)
@[simp] theorem nxt_rt (γ : SM) (d : D) (ρ : List D) : nxt γ (.rt d) ρ = .ok (.rt d) ρ := (rfl)
@[simp] theorem nxt_bk (γ : SM) (ρ : List D) : nxt γ .bk ρ = .ok .bk ρ := (rfl)
@[simp] theorem nxt_ct (γ : SM) (ρ : List D) : nxt γ .ct ρ = .ok .ct ρ := (rfl)
@[simp] theorem sSeq_r (β γ : SM) (ρ : List D) : sSeq β γ ρ = (β ρ).bind (nxt γ) := by
  unfold sSeq
  cases β ρ with
  | ok f ρ' => cases f <;> rfl
  | exc c p ρ' => rfl
  | bad => rfl
@[simp] theorem bind_ite {α β : Type} (c : Prop) [Decidable c] (a b : R α) (f : α → List D → R β) : (if c then a else b).bind f = if c then a.bind f else b.bind f := by split <;> rfl
/-- the end of a def -/
def fin (fall : Bool) (k : Nat) : R Fl → R D
  | .ok (.rt d) ρ => .ok d (ρ.take k)
  | .ok .nx ρ => if fall = true then .ok .non (ρ.take k) else .bad
  | .exc c p ρ => .exc c p (ρ.take k)
  | _ => .bad
theorem mkF_r (fall : Bool) (n k : Nat) (β : SM) (ds : List D) : mkF fall n k β ds = fin fall k (β (ds ++ List.replicate (n - k) .non)) := by
  unfold mkF fin
  rfl
@[simp] theorem fin_rt (fall : Bool) (k : Nat) (d : D) (ρ : List D) : fin fall k (.ok (.rt d) ρ) = .ok d (ρ.take k) := (rfl)
@[simp] theorem fin_nx (k : Nat) (ρ : List D) : fin true k (.ok .nx ρ) = .ok .non (ρ.take k) := (rfl)
@[simp] theorem fin_ite (c : Prop) [Decidable c] (a b : R Fl) (fall : Bool) (k : Nat) : fin fall k (if c then a else b) = if c then fin fall k a else fin fall k b := by split <;> rfl
@[simp] theorem d2I_r (c : Int → Int → Bool) (g : Int → Int → D) (i j : Int) : d2I c g (.int i) (.int j) = if c i j = true then some (g i j) else none := (rfl)
@[simp] theorem dSub_r (i j : Int) : dSub (.int i) (.int j) = some (.int (i - j)) := (rfl)
@[simp] theorem dAdd_r (i j : Int) : dAdd (.int i) (.int j) = some (.int (i + j)) := (rfl)
theorem dAdd_s {a b : Str} (h : a.length + b.length ≤ sizeLine) : dAdd (.str a) (.str b) = some (.str (a ++ b)) := if_pos h
theorem dAdd_t {a b : List D} (h : a.length + b.length ≤ sizeLine) : dAdd (.tup a) (.tup b) = some (.tup (a ++ b)) := if_pos h
theorem dMul_r {i j : Int} (h : mulOk i j = true) : dMul (.int i) (.int j) = some (.int (i * j)) := if_pos h
theorem mulOk_l {i j : Int} (h : -(2 ^ 64) < i ∧ i < 2 ^ 64) : mulOk i j = true := by
  unfold mulOk
  rw [Bool.or_eq_true]
  exact .inl (decide_eq_true (.inl h))
theorem mulOk_r {i j : Int} (h : -(2 ^ 64) < j ∧ j < 2 ^ 64) : mulOk i j = true := by
  unfold mulOk
  rw [Bool.or_eq_true]
  exact .inl (decide_eq_true (.inr h))
theorem dMod_r {i j : Int} (h : 0 < j) : dMod (.int i) (.int j) = some (.int (i % j)) := if_pos (decide_eq_true h)
theorem dDiv_r {i j : Int} (h : 0 < j ∧ j.natAbs.log2 < 9000) : dDiv (.int i) (.int j) = some (.int (i / j)) := if_pos (decide_eq_true h)
theorem dPow_r {i j : Int} (h : 0 ≤ j ∧ j ≤ 1000000 ∧ i.natAbs < 2 ^ 64) : dPow (.int i) (.int j) = some (.int (i ^ j.toNat)) := if_pos (decide_eq_true h)
@[simp] theorem dLt_r (i j : Int) : dLt (.int i) (.int j) = some (.bl (decide (i < j))) := (rfl)
@[simp] theorem dLe_r (i j : Int) : dLe (.int i) (.int j) = some (.bl (decide (i ≤ j))) := (rfl)
@[simp] theorem dGt_r (i j : Int) : dGt (.int i) (.int j) = some (.bl (decide (j < i))) := (rfl)
@[simp] theorem dGe_r (i j : Int) : dGe (.int i) (.int j) = some (.bl (decide (j ≤ i))) := (rfl)
@[simp] theorem dNeg_r (i : Int) : dNeg (.int i) = some (.int (-i)) := (rfl)
/-! equality -/
theorem dEq_of {a b : D} (h : D.flatOk a b = true) : dEq a b = some (.bl (D.eqv a b)) := if_pos h
theorem dNe_of {a b : D} (h : D.flatOk a b = true) : dNe a b = some (.bl (!D.eqv a b)) := if_pos h
@[simp] theorem dEq_ii (i j : Int) : dEq (.int i) (.int j) = some (.bl (decide (i = j))) := by
  rw [dEq_of rfl]
  show some (D.bl (i == j)) = _
  rw [Bool.beq_eq_decide_eq]
@[simp] theorem dEq_ss (i j : Str) : dEq (.str i) (.str j) = some (.bl (decide (i = j))) := by
  rw [dEq_of rfl]
  show some (D.bl (i == j)) = _
  rw [Bool.beq_eq_decide_eq]
@[simp] theorem dEq_bb (i j : Bool) : dEq (.bl i) (.bl j) = some (.bl (decide (i = j))) := by
  rw [dEq_of rfl]
  show some (D.bl (i == j)) = _
  rw [Bool.beq_eq_decide_eq]
@[simp] theorem dNe_ii (i j : Int) : dNe (.int i) (.int j) = some (.bl (!decide (i = j))) := by
  rw [dNe_of rfl]
  show some (D.bl !(i == j)) = _
  rw [Bool.beq_eq_decide_eq]
@[simp] theorem dNe_ss (i j : Str) : dNe (.str i) (.str j) = some (.bl (!decide (i = j))) := by
  rw [dNe_of rfl]
  show some (D.bl !(i == j)) = _
  rw [Bool.beq_eq_decide_eq]
@[simp] theorem dNe_bb (i j : Bool) : dNe (.bl i) (.bl j) = some (.bl (!decide (i = j))) := by
  rw [dNe_of rfl]
  show some (D.bl !(i == j)) = _
  rw [Bool.beq_eq_decide_eq]
@[simp] theorem eqv_ii (i j : Int) : D.eqv (.int i) (.int j) = (i == j) := (rfl)
@[simp] theorem eqv_ss (i j : Str) : D.eqv (.str i) (.str j) = (i == j) := (rfl)
@[simp] theorem eqv_bb (i j : Bool) : D.eqv (.bl i) (.bl j) = (i == j) := (rfl)
@[simp] theorem eqv_nn : D.eqv .non .non = true := (rfl)
mutual
theorem eqv_refl : ∀ d : D, d.py.plain = true → D.eqv d d = true
  | .non, _ => rfl
  | .bl b, _ => by show (b == b) = true; exact beq_self_eq_true b
  | .int b, _ => by show (b == b) = true; exact beq_self_eq_true b
  | .str b, _ => by show (b == b) = true; exact beq_self_eq_true b
  | .tup ds, h => eqvL_refl ds h
  | .lst ds, h => eqvL_refl ds h
  | .dic _, h => by cases h
theorem eqvL_refl : ∀ ds : List D, PyData.plainAll (D.pyL ds) = true → PyData.eqvAll (D.pyL ds) (D.pyL ds) = true
  | [], _ => rfl
  | d :: ds, h => by
    have h' : (d.py.plain && PyData.plainAll (D.pyL ds)) = true := h
    rw [Bool.and_eq_true] at h'
    show (PyData.eqv d.py d.py && PyData.eqvAll (D.pyL ds) (D.pyL ds)) = true
    rw [show PyData.eqv d.py d.py = true from eqv_refl d h'.1, eqvL_refl ds h'.2]
    rfl
end
mutual
theorem plain_imm : ∀ d : D, d.imm = true → d.py.plain = true
  | .non, _ => rfl
  | .bl b, _ => rfl
  | .int b, _ => rfl
  | .str b, _ => rfl
  | .tup ds, h => plainL_imm ds h
  | .lst ds, h => by cases h
  | .dic _, h => by cases h
theorem plainL_imm : ∀ ds : List D, D.immL ds = true → PyData.plainAll (D.pyL ds) = true
  | [], _ => rfl
  | d :: ds, h => by
    have h' : (d.imm && D.immL ds) = true := h
    rw [Bool.and_eq_true] at h'
    show (d.py.plain && PyData.plainAll (D.pyL ds)) = true
    rw [plain_imm d h'.1, plainL_imm ds h'.2]
    rfl
end
theorem dEq_self {d : D} (h : d.py.plain = true) (h2 : d.py.depth ≤ 150) : dEq d d = some (.bl true) := by
  rw [dEq_of (by unfold D.flatOk; rw [h, Bool.true_and, Bool.true_and, decide_eq_true_iff, Nat.min_self]; exact h2), eqv_refl d h]
@[simp] theorem isN_n : dIsN .non .non = some (.bl true) := (rfl)
@[simp] theorem isN_i (i : Int) : dIsN (.int i) .non = some (.bl false) := (rfl)
@[simp] theorem isN_t (i : List D) : dIsN (.tup i) .non = some (.bl false) := (rfl)
@[simp] theorem isN_l (i : List D) : dIsN (.lst i) .non = some (.bl false) := (rfl)
@[simp] theorem isN_s' (i : Str) : dIsN (.str i) .non = some (.bl false) := (rfl)
@[simp] theorem notN_n : dNotN .non .non = some (.bl false) := (rfl)
@[simp] theorem notN_i (i : Int) : dNotN (.int i) .non = some (.bl true) := (rfl)
@[simp] theorem notN_t (i : List D) : dNotN (.tup i) .non = some (.bl true) := (rfl)
@[simp] theorem notN_l (i : List D) : dNotN (.lst i) .non = some (.bl true) := (rfl)
@[simp] theorem notN_s' (i : Str) : dNotN (.str i) .non = some (.bl true) := (rfl)
/-! subscripts, sizes -/
@[simp] theorem dIx_l (ds : List D) (i : Int) : dIx (.lst ds) (.int i) = atI ds i := (rfl)
@[simp] theorem dIx_t (ds : List D) (i : Int) : dIx (.tup ds) (.int i) = atI ds i := (rfl)
theorem dIx_s {z : Str} (i : Int) (h : z.length ≤ sizeLine) : dIx (.str z) (.int i) = (atI z.cps.toList i).map fun c => .str ⟨#[c]⟩ := if_pos h
@[simp] theorem dIxAt_r (j : Nat) (ds : List D) : dIxAt j (.tup ds) (.int (j : Int)) = ds[j]? := if_pos rfl
theorem atI_r {α : Type} {ds : List α} {i : Nat} {d : α} (h : ds[i]? = some d) : atI ds (i : Int) = some d := atI_nat h
theorem atI_i {α : Type} {ds : List α} {i : Int} (h0 : 0 ≤ i) (h : i < ds.length) : atI ds i = ds[i.toNat]? := by
  obtain ⟨k, rfl⟩ := Int.eq_ofNat_of_zero_le h0
  have hk : k < ds.length := by omega
  rw [show ((k : Int).toNat) = k from rfl, List.getElem?_eq_getElem hk]
  exact atI_nat (List.getElem?_eq_getElem hk)
@[simp] theorem atI_0 {α : Type} (x : α) (ds : List α) : atI (x :: ds) 0 = some x := by
  unfold L2.atI ixN
  rw [if_pos (by omega), if_pos (by rw [List.length_cons]; omega)]
  rfl
@[simp] theorem atI_1 {α : Type} (x y : α) (ds : List α) : atI (x :: y :: ds) 1 = some y := by
  unfold L2.atI ixN
  rw [if_pos (by omega), if_pos (by rw [List.length_cons, List.length_cons]; omega)]
  rfl
@[simp] theorem atI_2 {α : Type} (x y z : α) (ds : List α) : atI (x :: y :: z :: ds) 2 = some z := by
  unfold L2.atI ixN
  rw [if_pos (by omega), if_pos (by rw [List.length_cons, List.length_cons, List.length_cons]; omega)]
  rfl
@[simp] theorem atI_3 {α : Type} (x y z u : α) (ds : List α) : atI (x :: y :: z :: u :: ds) 3 = some u := by
  unfold L2.atI ixN
  rw [if_pos (by omega), if_pos (by simp only [List.length_cons]; omega)]
  rfl
@[simp] theorem fLen_l (ds : List D) : fLen [.lst ds] = some (.int ds.length) := (rfl)
@[simp] theorem fLen_t (ds : List D) : fLen [.tup ds] = some (.int ds.length) := (rfl)
theorem fLen_s {z : Str} (h : z.length ≤ sizeLine) : fLen [.str z] = some (.int z.length) := if_pos h
@[simp] theorem fMax_r (i j : Int) : fMax [.int i, .int j] = some (.int (if j > i then j else i)) := (rfl)
@[simp] theorem fMin_r (i j : Int) : fMin [.int i, .int j] = some (.int (if j < i then j else i)) := (rfl)
@[simp] theorem fInt_i (i : Int) : fInt [.int i] = some (.int i) := (rfl)
@[simp] theorem fInt_b (i : Bool) : fInt [.bl i] = some (.int (if i then 1 else 0)) := (rfl)
@[simp] theorem fTup_l (ds : List D) : fTup [.lst ds] = some (.tup ds) := (rfl)
@[simp] theorem fTup_t (ds : List D) : fTup [.tup ds] = some (.tup ds) := (rfl)
@[simp] theorem fSeq_l (ds : List D) : fSeq [.lst ds] = some ds := (rfl)
@[simp] theorem fSeq_t (ds : List D) : fSeq [.tup ds] = some ds := (rfl)
theorem fStr_r {i : Int} (h : i.natAbs.log2 < 1920) : fStr [.int i] = some (.str (toString i)) := if_pos h
@[simp] theorem eIsi_r (T : String) (k : Od) (φ : EM D) (ρ : List D) : eIsi T k φ ρ = (φ ρ).bind fun d ρ => .ok (.bl (isCls T (k.res d ρ))) ρ := (rfl)
theorem eChn_r {f g : D → D → Option D} {ka kb kc : Od} {φa φb φc : EM D} (ρ : List D) : eChn f g ka φa kb φb kc φc ρ = (φa ρ).bind fun x ρ => (φb ρ).bind fun y ρ => match f (ka.res x ρ) (kb.res y ρ) with
  | some (.bl true) => (φc ρ).bind fun z ρ => liftO (g (kb.res y ρ) (kc.res z ρ)) ρ
  | some (.bl false) => .ok (.bl false) ρ
  | _ => .bad := (rfl)
end VL
/-! VL13: lists that are written, cuts, sums of lists, ranges. -/
namespace VL
open PySem L2

section
variable {K : PySem.W.Frag} {H H' : Hp} {U U' W W' : AS} {Γ Γ' : Gx} {ρ ρ' : List D} {σ σ' : L2.St} {a : Addr} {t : Ty}
/-- a slot's own list is rewritten -/
theorem Rel.updL (R : Rel K Γ U ρ σ H) {i : Nat} {xs xs' : List V} {ds' : List D} (hi : Γ[i]? = some (.own t)) (hσ : σ[i]? = some (some (.ref a))) (hH : H a = some (.lst xs)) (f : FzL K H (Wa Γ σ U) ds' xs') (ht : t.has (.lst ds')) :
    Rel K Γ U (ρ.set i (.lst ds')) σ (upd H a (.lst xs')) ∧ Ext H (Wr Γ σ) (upd H a (.lst xs')) := by
  have e0 : Ext H (Wr Γ σ) (upd H a (.lst xs')) := Ext.upd hH (fun _ z => by cases z) ⟨i, t, hi, hσ⟩
  have e : Ext H (Wa Γ σ U) (upd H a (.lst xs')) := e0.mono fun x z => .inl z
  refine ⟨⟨by rw [List.length_set]; exact R.len, R.glen, fun j u h => ?_, fun j u h => ?_, R.inj, fun x z => e.there x (R.trk x z)⟩, e0⟩
  · have n : i ≠ j := fun z => by
      subst z
      rw [hi] at h
      cases h
    obtain ⟨d, v, h1, h2, h3, h4⟩ := R.fz j u h
    exact ⟨d, v, by rw [List.getElem?_set_ne n]; exact h1, h2, Fz.ext (fun _ z => z) e h3, h4⟩
  · obtain ⟨d, b, h1, h2, h3, h4, h5⟩ := R.own j u h
    by_cases n : i = j
    · subst n
      rw [hi] at h
      cases h
      rw [hσ] at h2
      cases h2
      exact ⟨_, a, List.getElem?_set_self (List.getElem?_eq_some_iff.mp h1).1, hσ, .inl ⟨ds', xs', rfl, upd_same, FzL.ext (fun _ z => z) e f⟩, ht, h5⟩
    · have nb : b ≠ a := fun z => by
        subst z
        exact n (R.inj i j t u b hi h hσ h2)
      refine ⟨d, b, by rw [List.getElem?_set_ne n]; exact h1, h2, ?_, h4, h5⟩
      rcases h3 with ⟨ds, xs, k1, k2, k3⟩ | ⟨ds, xs, k1, k2, k3⟩
      · exact .inl ⟨ds, xs, k1, by rw [upd_ne nb]; exact k2, FzL.ext (fun _ z => z) e k3⟩
      · exact .inr ⟨ds, xs, k1, by rw [upd_ne nb]; exact k2, FzM.ext (fun _ z => z) e k3⟩
/-- a method of a list by what stands in it -/
def MtS (K : PySem.W.Frag) (r : V → List V → Hp → VK → Prop) (f : List D → List D → Option (D × List D)) (ta : Ty) (ts : List Ty) (tr : Ty) : Prop := ∀ (H : Hp) (W : AS) (a : Addr) (ds as : List D) (xs vs : List V) (d : D) (ds' : List D), H a = some (.lst xs) → FzL K H W ds xs → FzL K H W as vs →
  (∀ x ∈ ds, ta.has x) → Ty.hasL ts as → f ds as = some (d, ds') → ∃ xs' v, FzL K H W ds' xs' ∧ Fz K H W d v ∧ (∀ x ∈ ds', ta.has x) ∧ tr.has d ∧ ∀ Q : VK, Q v (upd H a (.lst xs')) → r (.ref a) vs H Q
def eMeth (f : List D → List D → Option (D × List D)) (i : Nat) (ψ : EM (List D)) : EM D := fun ρ => (ψ ρ).bind fun as ρ => match ρ.getD i .non with
  | .lst ds => match f ds as with
    | some (d, ds') => .ok d (ρ.set i (.lst ds'))
    | none => .bad
  | _ => .bad
end
section
variable {X : Cx} {Z : Zx} {L : Lp} {Γ Γ' : Gx} {o e a b : Expr} {es : List Expr} {φ φa φb : EM D} {ψ : EM (List D)} {t u ta tb tr : Ty} {pos apos cpos p2 : Pos} {ks : List AK}
theorem meth_core {r : V → List V → Hp → VK → Prop} {f : List D → List D → Option (D × List D)} {i : Nat} {ts : List Ty} {σ : L2.St} {H2 : Hp} {U : AS} {Q : VK} {ρ1 : List D} {v : V} {as : List D} {vs : List V} (hr : MtS Z.K r f ta ts tr) (hi : Γ[i]? = some (.own (.L ta)))
    (R2 : Rel Z.K Γ U ρ1 σ H2) (hσ : σ[i]? = some (some v)) (fa : FzL Z.K H2 (Wa Γ σ U) as vs) (ta' : Ty.hasL ts as)
    (q : Aft Z Γ (Pf Z.K tr) σ H2 U Q (match ρ1.getD i .non with
      | .lst ds => match f ds as with
        | some (d, ds') => R.ok d (ρ1.set i (.lst ds'))
        | none => .bad
      | _ => .bad)) : r v vs H2 Q := by
  obtain ⟨d, a, h1, h2, h3, h4, _⟩ := R2.own i _ hi
  rw [h2] at hσ
  cases hσ
  rw [getD_of h1] at q
  obtain ⟨ds, rfl, hds⟩ := h4
  rcases h3 with ⟨ds2, xs, k1, k2, k3⟩ | ⟨ds2, xs, k1, k2, k3⟩
  · cases k1
    have q : Aft Z Γ (Pf Z.K tr) σ H2 U Q (match f ds as with
      | some (d, ds') => R.ok d (ρ1.set i (.lst ds'))
      | none => R.bad) := q
    cases hf : f ds as with
    | none =>
      rw [hf] at q
      exact q.elim
    | some dd =>
      rw [hf] at q
      obtain ⟨d, ds'⟩ := dd
      obtain ⟨xs', w, g1, g2, g3, g4, g5⟩ := hr H2 _ a ds as xs vs d ds' k2 k3 fa hds ta' hf
      obtain ⟨Rn, en⟩ := R2.updL hi h2 k2 g1 ⟨ds', rfl, g3⟩
      exact g5 Q (q w _ en Rn ⟨Fz.ext (fun _ z => z) (en.mono fun _ z => .inl z) g2, g4⟩)
  · cases k1
theorem own_ty {i : Nat} {σ : L2.St} {H : Hp} {U : AS} {ρ : List D} {v : V} (R : Rel Z.K Γ U ρ σ H) (hi : Γ[i]? = some (.own (.L ta))) (hσ : σ[i]? = some (some v)) : tyV Z.K "list" v H := by
  obtain ⟨d, a, h1, h2, h3, h4, _⟩ := R.own i _ hi
  rw [h2] at hσ
  cases hσ
  obtain ⟨ds, rfl, _⟩ := h4
  rcases h3 with ⟨ds2, xs, k1, k2, k3⟩ | ⟨ds2, xs, k1, k2, k3⟩
  · exact .inl ⟨rfl, xs, .inl (.inl k2)⟩
  · cases k1
theorem se_meth {name : Str} {id : String} {r : V → List V → Hp → VK → Prop} {f : List D → List D → Option (D × List D)} {i : Nat} (hK : Z.K = X.K) (pa : PlainAttrs "list") (slot : PySem.Slot "list" name id) (hty : typeOf (.builtin id) = pure (.type "method_descriptor")) (hm : MtR X id r)
    (hr : MtS Z.K r f ta (AK.tys ks) tr) (ho : SO X Z Γ o eSl (.s i)) (ha : SA X Z Γ (e :: es) ψ ks) (hi : Γ[i]? = some (.own (.L ta)) := by rfl) (hv : AK.allV ks = true := by rfl)
    (hbase : attributeBase o name X.env (eval o X.env) = eval o X.env := by rfl)
    (hfew : ((backTo cpos (starEach (e :: es) X.env)).all (fun p => !p.1) && (backToKw cpos (keywordEach [] X.env)).all (fun p => p.1.isSome) && decide ((e :: es).length + ([] : List Keyword).length + (if ([] : List Keyword).isEmpty then 0 else 1) < 30)) = true := by rfl)
    (hline : (apos.endLine == cpos.line) = true := by rfl) (hs : starEach (e :: es) X.env = (false, eval e X.env) :: starEach es X.env := by rfl) (hplain : (backTo cpos (starEach es X.env)).any (·.1) = false := by rfl) :
    SE X Z Γ (.Call (.Attribute o name apos) (e :: es) [] cpos) (eMeth f i ψ) tr := PE.imp (pe_bm pa slot hty hm ho ha hbase hfew hline hs hplain) fun σ H Q ⟨ρ, U, R, q⟩ =>
  ⟨ρ, U, R, fun v H1 e1 R1 p1 => ⟨hK ▸ own_ty R1 hi p1, ρ, U, R1, Aft.bind (Aft.later q e1) fun as ρ2 vs H2 e2 R2 p2 q => by
    obtain ⟨fa, tas⟩ := Pa.fz hv p2
    exact meth_core hr hi R2 p1 fa tas q⟩⟩
theorem se_meth0 {name : Str} {id : String} {r : V → List V → Hp → VK → Prop} {f : List D → List D → Option (D × List D)} {i : Nat} (hK : Z.K = X.K) (pa : PlainAttrs "list") (slot : PySem.Slot "list" name id) (hty : typeOf (.builtin id) = pure (.type "method_descriptor")) (hm : MtR X id r)
    (hr : MtS Z.K r f ta [] tr) (ho : SO X Z Γ o eSl (.s i)) (hi : Γ[i]? = some (.own (.L ta)) := by rfl)
    (hbase : attributeBase o name X.env (eval o X.env) = eval o X.env := by rfl)
    (hline : (apos.endLine == cpos.line) = true := by rfl) :
    SE X Z Γ (.Call (.Attribute o name apos) [] [] cpos) (eMeth f i eNil) tr := PE.imp (pe_bm0 pa slot hty hm ho hbase hline) fun σ H Q ⟨ρ, U, R, q⟩ =>
  ⟨ρ, U, R, fun v H1 e1 R1 p1 => ⟨hK ▸ own_ty R1 hi p1, meth_core (as := []) hr hi R1 p1 rfl rfl (Aft.later q e1)⟩⟩
/-! append, pop, insert, reverse, clear -/
def fApp (ds as : List D) : Option (D × List D) := match as with
  | [x] => if ds.length < sizeLine then some (.non, ds ++ [x]) else none
  | _ => none
def fPop (ds as : List D) : Option (D × List D) := match as, ds[ds.length - 1]? with
  | [], some x => some (x, ds.dropLast)
  | _, _ => none
def fPopAt (ds as : List D) : Option (D × List D) := match as with
  | [.int i] => if -(2 ^ 63) ≤ i ∧ i < 2 ^ 63 then (match seqIndex? i ds.length with
    | some k => (match ds[k]? with
      | some x => some (x, ds.eraseIdx k)
      | none => none)
    | none => none) else none
  | _ => none
def fRev (ds as : List D) : Option (D × List D) := match as with
  | [] => some (.non, ds.reverse)
  | _ => none
def fClr (ds as : List D) : Option (D × List D) := match as with
  | [] => some (.non, [])
  | _ => none
theorem app_s {K : PySem.W.Frag} (h : u.le ta = true) : MtS K rAppend fApp ta [u] .im := fun H W a ds as xs vs d ds' hH f fa hd hl hf => by
  obtain ⟨x, r, rfl, hx, hr⟩ := hl
  have hr : r = [] := hr
  subst hr
  obtain ⟨v, s, rfl, fv, fs⟩ := fa
  have fs : s = [] := fs
  subst fs
  unfold fApp at hf
  dsimp only at hf
  split at hf
  · rename_i hlen
    cases hf
    refine ⟨xs ++ [v], .non, f.append (.one fv), rfl, fun y hy => ?_, rfl, fun Q q => ⟨a, xs, v, rfl, rfl, hH, by rw [← f.length]; exact hlen, q⟩⟩
    rcases List.mem_append.mp hy with z | z
    · exact hd y z
    · rw [List.mem_singleton.mp z]; exact Ty.le_has h hx
  · cases hf
theorem FzL.dropLast {K : PySem.W.Frag} {H : Hp} {W : AS} {ds : List D} {vs : List V} (h : FzL K H W ds vs) : FzL K H W ds.dropLast vs.dropLast := by
  rw [List.dropLast_eq_take, List.dropLast_eq_take, h.length]
  exact h.take _
theorem pop_s {K : PySem.W.Frag} : MtS K rPop fPop ta [] ta := fun H W a ds as xs vs d ds' hH f fa hd hl hf => by
  have hl : as = [] := hl
  subst hl
  have fa : vs = [] := fa
  subst fa
  unfold fPop at hf
  split at hf
  · rename_i x _ hx
    cases hf
    obtain ⟨v, hv, fv⟩ := f.get hx
    rw [f.length] at hv
    exact ⟨xs.dropLast, v, f.dropLast, fv, fun y hy => hd y (by rw [List.dropLast_eq_take] at hy; exact List.mem_of_mem_take hy), hd _ (List.mem_of_getElem? hx), fun Q q => ⟨a, xs, v, rfl, rfl, hH, hv, q⟩⟩
  · cases hf
theorem popAt_s {K : PySem.W.Frag} : MtS K rPopAt fPopAt ta [.im] ta := fun H W a ds as xs vs d ds' hH f fa hd hl hf => by
  unfold fPopAt at hf
  split at hf
  · rename_i i
    split at hf
    · rename_i hb
      split at hf
      · rename_i k hk
        split at hf
        · rename_i x hx
          cases hf
          obtain ⟨w, s, rfl, fv, fs⟩ := fa
          have fs : s = [] := fs
          subst fs
          have fv : w = .int i := fv
          subst fv
          obtain ⟨v, hv, fv⟩ := f.get hx
          exact ⟨xs.eraseIdx k, v, f.eraseIdx k, fv, fun y hy => hd y (List.mem_of_mem_eraseIdx hy), hd _ (List.mem_of_getElem? hx), fun Q q => ⟨a, xs, i, k, v, rfl, rfl, hH, hb.1, hb.2, by rw [← f.length]; exact hk, hv, q⟩⟩
        · cases hf
      · cases hf
    · cases hf
  · cases hf
theorem rev_s {K : PySem.W.Frag} : MtS K rReverse fRev ta [] .im := fun H W a ds as xs vs d ds' hH f fa hd hl hf => by
  have hl : as = [] := hl
  subst hl
  have fa : vs = [] := fa
  subst fa
  cases hf
  exact ⟨xs.reverse, .non, f.rev, rfl, fun y hy => hd y (List.mem_reverse.mp hy), rfl, fun Q q => ⟨a, xs, rfl, rfl, hH, q⟩⟩
theorem clr_s {K : PySem.W.Frag} : MtS K rClear fClr ta [] .im := fun H W a ds as xs vs d ds' hH f fa hd hl hf => by
  have hl : as = [] := hl
  subst hl
  have fa : vs = [] := fa
  subst fa
  cases hf
  exact ⟨[], .non, rfl, rfl, (fun y hy => (List.not_mem_nil hy).elim), rfl, fun Q q => ⟨a, xs, rfl, rfl, hH, q⟩⟩
theorem se_app {i : Nat} (hK : Z.K = X.K) (ho : SO X Z Γ o eSl (.s i)) (he : SE X Z Γ e φ u) (hi : Γ[i]? = some (.own (.L ta)) := by rfl) (hu : u.le ta = true := by rfl)
    (hbase : attributeBase o "append" X.env (eval o X.env) = eval o X.env := by rfl)
    (hfew : ((backTo cpos (starEach [e] X.env)).all (fun p => !p.1) && (backToKw cpos (keywordEach [] X.env)).all (fun x => x.1.isSome)
      && decide ([e].length + ([] : List Keyword).length + (if ([] : List Keyword).isEmpty then 0 else 1) < 30)) = true := by rfl)
    (hline : (apos.endLine == cpos.line) = true := by rfl) (hs : starEach [e] X.env = (false, eval e X.env) :: starEach [] X.env := by rfl) :
    SE X Z Γ (.Call (.Attribute o "append" apos) [e] [] cpos) (eMeth fApp i (eCons φ eNil)) .im :=
  se_meth hK PySem.F.plainAttrs_list PySem.F.slot_list_append PySem.F.type_list_append mt_append (app_s hu) ho (sa_cons he sa_nil hs) hi rfl hbase hfew hline hs rfl
theorem se_pop {i : Nat} (hK : Z.K = X.K) (ho : SO X Z Γ o eSl (.s i)) (hi : Γ[i]? = some (.own (.L ta)) := by rfl)
    (hbase : attributeBase o "pop" X.env (eval o X.env) = eval o X.env := by rfl) (hline : (apos.endLine == cpos.line) = true := by rfl) :
    SE X Z Γ (.Call (.Attribute o "pop" apos) [] [] cpos) (eMeth fPop i eNil) ta :=
  se_meth0 hK PySem.F.plainAttrs_list PySem.F.slot_list_pop PySem.F.type_list_pop mt_pop pop_s ho hi hbase hline
theorem se_popAt {i : Nat} (hK : Z.K = X.K) (ho : SO X Z Γ o eSl (.s i)) (he : SE X Z Γ e φ .im) (hi : Γ[i]? = some (.own (.L ta)) := by rfl)
    (hbase : attributeBase o "pop" X.env (eval o X.env) = eval o X.env := by rfl)
    (hfew : ((backTo cpos (starEach [e] X.env)).all (fun p => !p.1) && (backToKw cpos (keywordEach [] X.env)).all (fun x => x.1.isSome)
      && decide ([e].length + ([] : List Keyword).length + (if ([] : List Keyword).isEmpty then 0 else 1) < 30)) = true := by rfl)
    (hline : (apos.endLine == cpos.line) = true := by rfl) (hs : starEach [e] X.env = (false, eval e X.env) :: starEach [] X.env := by rfl) :
    SE X Z Γ (.Call (.Attribute o "pop" apos) [e] [] cpos) (eMeth fPopAt i (eCons φ eNil)) ta :=
  se_meth hK PySem.F.plainAttrs_list PySem.F.slot_list_pop PySem.F.type_list_pop mt_popAt popAt_s ho (sa_cons he sa_nil hs) hi rfl hbase hfew hline hs rfl

/-! ### a new list by two operands -/
def OpN (K : PySem.W.Frag) (r : R2) (f : D → D → Option (List D)) (ta tb t : Ty) : Prop := ∀ (H : Hp) (W : AS) (x y : V) (da db : D) (ds : List D), Vw K H W da x → Vw K H W db y → ta.has da → tb.has db → f da db = some ds →
  (∀ d ∈ ds, t.has d) ∧ ∃ vs, FzL K H W ds vs ∧ ∀ Q : VK, (∀ p, H p = none → Q (.ref p) (upd H p (.lst vs))) → r x y H Q
def eBinN (f : D → D → Option (List D)) (ka : Od) (φa : EM D) (kb : Od) (φb : EM D) : EM D := eBin (fun x y => (f x y).map D.lst) ka φa kb φb
theorem binN_core {f : D → D → Option (List D)} {ka kb : Od} {r : R2} (hka : ka.ok Γ ta) (hkb : kb.ok Γ tb) (hr : OpN Z.K r f ta tb t) {σ : L2.St} {H : Hp} {Q : VK} (h : TofN Z Γ (eBinN f ka φa kb φb) (.L t) σ H Q) :
    tOp r (Tof Z Γ φa (ka.P Z.K)) (Tof Z Γ φb (kb.P Z.K)) σ H Q := by
  obtain ⟨ρ, U, R, q⟩ := h
  refine ⟨ρ, U, R, AftN.bind q fun da ρ1 x H1 e1 R1 p1 q => ⟨ρ1, U, R1, AftN.bind q fun db ρ2 y H2 e2 R2 p2 q => ?_⟩⟩
  have p1' := Od.keep p1 e2
  obtain ⟨vx, tx⟩ := Od.vw hka R2 p1'
  obtain ⟨vy, ty⟩ := Od.vw hkb R2 p2
  cases hf : f (ka.res da ρ2) (kb.res db ρ2) with
  | none =>
    dsimp only at q
    rw [hf] at q
    exact False.elim q
  | some ds =>
    dsimp only at q
    rw [hf] at q
    have q : AftN Z Γ (.L t) σ H2 U Q (VL.R.ok (.lst ds) ρ2) := q
    obtain ⟨td, vs, fv, hq⟩ := hr H2 _ x y _ _ ds vx vy tx ty hf
    exact hq Q fun p hp => q p _ (Ext.new hp) hp (R2.new hp) (own_new R2 hp fv) ⟨ds, rfl, td⟩
theorem sn_op {op : Operator} {f : D → D → Option (List D)} {ka kb : Od} {r : R2} (ho : OpR X (binaryOp op) r) (hr : OpN Z.K r f ta tb t) (ha : SO X Z Γ a φa ka) (hb : SO X Z Γ b φb kb) (hka : ka.ok Γ ta := by rfl) (hkb : kb.ok Γ tb := by rfl) :
    SN X Z Γ (.BinOp a op b pos) (eBinN f ka φa kb φb) (.L t) := PE.imp (pe_op ho ha hb) fun _ _ _ h => binN_core hka hkb hr h
/-- list + list, any that can be read -/
def rCat2 (K : PySem.W.Frag) : R2 := fun x y H Q => ∃ l b xs zs, x = .ref l ∧ y = .ref b ∧ SqL K H l xs ∧ SqL K H b zs ∧ xs.length + zs.length ≤ sizeLine ∧ ∀ p, H p = none → Q (.ref p) (upd H p (.lst (xs ++ zs)))
theorem op_cat2 : OpR X (binaryOp .Add) (rCat2 X.K) := fun pins s σ H x y v u Q I rx ry h => by
  obtain ⟨l, m, xs, ys, rfl, rfl, sx, sy, hz, q⟩ := h
  cases rx
  cases ry
  obtain ⟨us, r, pl, _⟩ := I.list sx
  obtain ⟨ws, r2, pm, _⟩ := I.list sy
  obtain ⟨⟨c1, d1, k1, s1⟩, g1, rfl, n1, rfl⟩ := pl.isList
  obtain ⟨⟨c2, d2, k2, s2⟩, g2, rfl, n2, rfl⟩ := pm.isList
  have small : us.toArray.size + ws.toArray.size ≤ sizeLine := by
    rw [List.size_toArray, List.size_toArray, ← r.length, ← r2.length]
    exact hz
  refine concat_meets ⟨_, g1, rfl⟩ ⟨_, g2, rfl⟩ noFill_list_add seq_list_add PySem.F.slot_list_add PySem.F.entry_list_add (PySem.F.args_list_add_2 _ _) (PyProof.Rows.list_addW l m us.toArray ws.toArray n1 n2 d1 d2 s1 s2 small) ⟨g1, g2, ?_⟩
  have both := r.append r2
  have I2 := I.lnew (t' := s.toks) both (by rw [List.length_append]; exact hz)
  rw [show us.toArray ++ ws.toArray = (us ++ ws).toArray from List.append_toArray us ws]
  exact ⟨.ref _, _, I2, rfl, q _ I.fresh⟩
def fCat (x y : D) : Option (List D) := match x, y with
  | .lst xs, .lst ys => if xs.length + ys.length ≤ sizeLine then some (xs ++ ys) else none
  | _, _ => none
theorem cat_s {K : PySem.W.Frag} (h1 : ta.le t = true) (h2 : tb.le t = true) : OpN K (rCat2 K) fCat (.L ta) (.L tb) t := fun H W x y da db ds hx hy hta htb hf => by
  obtain ⟨as, rfl, ha⟩ := hta
  obtain ⟨bs, rfl, hb⟩ := htb
  obtain ⟨a, xs, rfl, sa, fa⟩ := hx.lst
  obtain ⟨b, ys, rfl, sb, fb⟩ := hy.lst
  unfold fCat at hf
  dsimp only at hf
  split at hf
  · rename_i hl
    cases hf
    refine ⟨fun d hd => ?_, xs ++ ys, fa.append fb, fun Q q => ⟨a, b, xs, ys, rfl, rfl, sa, sb, by rw [← fa.length, ← fb.length]; exact hl, q⟩⟩
    rcases List.mem_append.mp hd with z | z
    · exact Ty.le_has h1 (ha d z)
    · exact Ty.le_has h2 (hb d z)
  · cases hf
theorem sn_cat {ka kb : Od} (hK : Z.K = X.K) (ha : SO X Z Γ a φa ka) (hb : SO X Z Γ b φb kb) (h1 : ta.le t = true := by rfl) (h2 : tb.le t = true := by rfl) (hka : ka.ok Γ (.L ta) := by rfl) (hkb : kb.ok Γ (.L tb) := by rfl) :
    SN X Z Γ (.BinOp a .Add b pos) (eBinN fCat ka φa kb φb) (.L t) := sn_op op_cat2 (hK ▸ cat_s h1 h2) ha hb hka hkb

/-! ### cuts -/
def cutL {α : Type} (xs : List α) (lo hi : Option Int) : List α := (xs.drop (HT.sIx xs.length 0 lo)).take (HT.sIx xs.length xs.length hi - HT.sIx xs.length 0 lo)
def Po : Option Int → Option Int → L2.St → Hp → AS → Prop := fun a b _ _ _ => a = b
abbrev SPt (X : Cx) (Z : Zx) (Γ : Gx) (e : Option Expr) (φ : EM (Option Int)) : Prop := PO X e (Tof Z Γ φ Po)
theorem PO.imp {X : Cx} {e : Option Expr} {t t' : TO} (h : PO X e t) (w : ∀ σ H Q, t' σ H Q → t σ H Q) : PO X e t' := ⟨fun pins s σ H Q I q => h.run pins s σ H Q I (w σ H Q q)⟩
def pNone : EM (Option Int) := fun ρ => .ok none ρ
def asI (d : D) (ρ : List D) : R (Option Int) := match d with
  | .int i => .ok (some i) ρ
  | _ => .bad
def pSome (φ : EM D) : EM (Option Int) := fun ρ => (φ ρ).bind asI
theorem sp_none : SPt X Z Γ none pNone := PO.imp po_none fun σ H Q ⟨ρ, U, R, q⟩ => q none H .refl R rfl
theorem sp_some (h : SE X Z Γ e φ t) : SPt X Z Γ (some e) (pSome φ) := PO.imp (po_some h) fun σ H Q ⟨ρ, U, R, q⟩ => ⟨ρ, U, R, Aft.bind q fun d ρ1 v H1 e1 R1 p1 q => by
  cases d with
  | int i => exact ⟨i, p1.1, q (some i) H1 .refl R1 rfl⟩
  | _ => exact q.elim⟩
variable {lo hi : Option Expr} {φl φh : EM (Option Int)}
def eSlc (f : D → Option Int → Option Int → Option D) (k : Od) (φ : EM D) (φl φh : EM (Option Int)) : EM D := fun ρ => (φ ρ).bind fun x ρ => (φl ρ).bind fun l ρ => (φh ρ).bind fun h ρ => liftO (f (k.res x ρ) l h) ρ
def dCutL (x : D) (lo hi : Option Int) : Option D := match x with
  | .lst ds => some (.lst (cutL ds lo hi))
  | _ => none
def dCut (x : D) (lo hi : Option Int) : Option D := match x with
  | .str z => if z.length ≤ sizeLine then some (.str (cutS z lo hi)) else none
  | .tup ds => some (.tup (cutL ds lo hi))
  | _ => none
theorem FzL.cut {K : PySem.W.Frag} {H : Hp} {W : AS} {ds : List D} {vs : List V} (h : FzL K H W ds vs) (lo hi : Option Int) : FzL K H W (cutL ds lo hi) (cutV vs lo hi) := by
  unfold cutL cutV
  rw [h.length]
  exact (h.drop _).take _
theorem cutL_mem {α : Type} {xs : List α} {lo hi : Option Int} {x : α} (h : x ∈ cutL xs lo hi) : x ∈ xs := List.mem_of_mem_drop (List.mem_of_mem_take h)
theorem sn_sl {k : Od} (hK : Z.K = X.K) (he : SO X Z Γ e φ k) (hl : SPt X Z Γ lo φl) (hh : SPt X Z Γ hi φh) (hk : k.ok Γ (.L t) := by rfl) : SN X Z Γ (.Subscript e (.Slice lo hi none p2) pos) (eSlc dCutL k φ φl φh) (.L t) := PE.imp (pe_slice sl_list he hl hh) fun σ H Q ⟨ρ, U, R, q⟩ =>
  ⟨ρ, U, R, AftN.bind q fun x ρ1 v H1 e1 R1 p1 q => ⟨ρ1, U, R1, AftN.bind q fun l ρ2 l' H2 e2 R2 p2 q => ⟨ρ2, U, R2, AftN.bind q fun h ρ3 h' H3 e3 R3 p3 q => by
    have pl : l = l' := p2
    have ph : h = h' := p3
    subst pl ph
    obtain ⟨vw, ty⟩ := Od.vw hk R3 (Od.keep p1 (e2.trans e3))
    obtain ⟨ds, hds, hd⟩ := ty
    rw [hds] at vw
    obtain ⟨a, xs, rfl, sa, fa⟩ := vw.lst
    have q : AftN Z Γ (.L t) σ H3 U Q (liftO (dCutL (k.res x ρ3) l h) ρ3) := q
    rw [hds] at q
    have q : AftN Z Γ (.L t) σ H3 U Q (VL.R.ok (.lst (cutL ds l h)) ρ3) := q
    exact ⟨a, xs, rfl, hK ▸ sa, fun p hp => q p _ (Ext.new hp) hp (R3.new hp) (own_new R3 hp (fa.cut l h)) ⟨_, rfl, fun d hd' => hd d (cutL_mem hd')⟩⟩⟩⟩⟩
theorem se_sl {k : Od} (hK : Z.K = X.K) (he : SO X Z Γ e φ k) (hl : SPt X Z Γ lo φl) (hh : SPt X Z Γ hi φh) (hk : k.ok Γ .im := by rfl) : SE X Z Γ (.Subscript e (.Slice lo hi none p2) pos) (eSlc dCut k φ φl φh) .im := PE.imp (pe_slice (SlR.or sl_str sl_tupA) he hl hh) fun σ H Q ⟨ρ, U, R, q⟩ =>
  ⟨ρ, U, R, Aft.bind q fun x ρ1 v H1 e1 R1 p1 q => ⟨ρ1, U, R1, Aft.bind q fun l ρ2 l' H2 e2 R2 p2 q => ⟨ρ2, U, R2, Aft.bind q fun h ρ3 h' H3 e3 R3 p3 q => by
    have pl : l = l' := p2
    have ph : h = h' := p3
    subst pl ph
    obtain ⟨vw, ty⟩ := Od.vw hk R3 (Od.keep p1 (e2.trans e3))
    have q : Aft Z Γ (Pf Z.K .im) σ H3 U Q (liftO (dCut (k.res x ρ3) l h) ρ3) := q
    generalize k.res x ρ3 = d at q vw ty
    cases d with
    | str z =>
      by_cases hz : z.length ≤ sizeLine
      · have q : Aft Z Γ (Pf Z.K .im) σ H3 U Q (liftO (if z.length ≤ sizeLine then some (.str (cutS z l h)) else none) ρ3) := q
        rw [if_pos hz] at q
        exact .inl ⟨z, vw.str, hz, q _ H3 .refl R3 ⟨rfl, rfl⟩⟩
      · have q : Aft Z Γ (Pf Z.K .im) σ H3 U Q (liftO (if z.length ≤ sizeLine then some (.str (cutS z l h)) else none) ρ3) := q
        rw [if_neg hz] at q
        exact q.elim
    | tup ds =>
      obtain ⟨a, xs, rfl, ta, fa⟩ := vw.tup
      have q : Aft Z Γ (Pf Z.K .im) σ H3 U Q (VL.R.ok (.tup (cutL ds l h)) ρ3) := q
      have im : (D.tup (cutL ds l h)).imm = true := immL_of fun d hd => immL_mem (show D.immL ds = true from ty) (cutL_mem hd)
      refine .inr ⟨a, xs, rfl, hK ▸ ta.sq, fun w => ?_, fun _ p hp => ?_⟩
      · have whole : cutL ds l h = ds := by
          unfold cutL
          rw [fa.length, w.1, w.2, ← fa.length]
          simp
        rw [whole] at q im
        exact q _ H3 .refl R3 ⟨⟨a, xs, rfl, ta, fa⟩, im⟩
      · have e4 : Ext H3 (fun _ => False) (L2.upd H3 p (.tup (cutV xs l h))) := Ext.new hp
        exact q (.ref p) _ (ext_mono e4) (R3.same e4) ⟨⟨p, _, rfl, .inl upd_same, FzL.ext (fun _ z => z.elim) e4 (fa.cut l h)⟩, im⟩
    | _ => exact q.elim⟩⟩⟩

/-! ### ranges -/
def up (lo : Int) (n : Nat) : List D := (List.range n).map fun (k : Nat) => D.int (lo + (k : Int))
def down (lo : Int) (n : Nat) : List D := (List.range n).map fun (k : Nat) => D.int (lo + (k : Int) * (-1))
def rg1 (ds : List D) : Option (List D) := match ds with
  | [.int j] => if -(2 ^ 62) ≤ j ∧ j < 2 ^ 62 then some (up 0 j.toNat) else none
  | _ => none
def rg2 (ds : List D) : Option (List D) := match ds with
  | [.int i, .int j] => if -(2 ^ 62) ≤ i ∧ i < 2 ^ 62 ∧ -(2 ^ 62) ≤ j ∧ j < 2 ^ 62 then some (up i (j - i).toNat) else none
  | _ => none
def rg3 (ds : List D) : Option (List D) := match ds with
  | [.int i, .int j, .int k] => if (-(2 ^ 62) ≤ i ∧ i < 2 ^ 62 ∧ -(2 ^ 62) ≤ j ∧ j < 2 ^ 62) ∧ k = -1 then some (down i (i - j).toNat) else none
  | _ => none
def eRg (f : List D → Option (List D)) (ψ : EM (List D)) : EM (List D) := fun ρ => (ψ ρ).bind fun ds ρ => liftO (f ds) ρ
theorem up_at {lo : Int} {n i : Nat} (h : i < n) : (up lo n)[i]? = some (.int (lo + (i : Int))) := by
  unfold up
  rw [List.getElem?_map, List.getElem?_range h]
  rfl
theorem down_at {lo : Int} {n i : Nat} (h : i < n) : (down lo n)[i]? = some (.int (lo + (i : Int) * (-1))) := by
  unfold down
  rw [List.getElem?_map, List.getElem?_range h]
  rfl
theorem it_fn {J : It} {n : Nat} {f : Nat → Int} {ds : List D} {W W0 : AS} {H : Hp} (w : Walk J n (fun _ => True) (YFn fun i => .int (f i))) (hl : ds.length = n) (hi : ∀ d ∈ ds, d.imm = true) (hd : ∀ i, i < n → ds[i]? = some (.int (f i))) : ItOk Z W W0 J ds .im H := by
  refine ⟨_, fun i H x H' => i < n ∧ H' = H ∧ x = .int (f i), by rw [hl]; exact w.mono (fun _ _ => trivial) fun i H x H' hi _ y => ⟨hi, y⟩, fun _ _ => trivial, hi, fun i H1 x H2 W' e hw y => ?_⟩
  obtain ⟨hi, e2, hx⟩ := y
  subst e2 hx
  exact ⟨.refl, .int (f i), hd i hi, rfl⟩
theorem it_up {lo : Int} {n : Nat} {W W0 : AS} {H : Hp} : ItOk Z W W0 (Itr lo n) (up lo n) .im H := it_fn walk_range (by simp [up]) (fun d hd => by
  obtain ⟨k, _, rfl⟩ := List.mem_map.mp hd
  rfl) fun i hi => up_at hi
theorem it_down {lo : Int} {n : Nat} {W W0 : AS} {H : Hp} : ItOk Z W W0 (Itc lo (-1) n) (down lo n) .im H := it_fn walk_rangeC (by simp [down]) (fun d hd => by
  obtain ⟨k, _, rfl⟩ := List.mem_map.mp hd
  rfl) fun i hi => down_at hi
variable {tg c : Expr} {p : Pos} {t1 t2 t3 : Ty}
theorem si_rg1 (hg : Gl X "range") (hm : X.mg "range" = none) (ha : SA X Z Γ [a] ψ [.v t1]) (hs : starEach [a] X.env = [(false, eval a X.env)] := by rfl) : SI X Z Γ tg (.Call (.Name "range" p) [a] [] pos) (eRg rg1 ψ) .im := PI.imp (pi_range1 hg hm ha hs) fun σ H Rr ⟨ρ, U, R, q⟩ =>
  ⟨ρ, U, R, AftI.bind q fun ds ρ1 vs H1 e1 R1 p1 q => by
    obtain ⟨d, r, v, s, rfl, rfl, hd, rfl, rfl⟩ := p1
    cases d with
    | int j =>
      by_cases h : -(2 ^ 62) ≤ j ∧ j < 2 ^ 62
      · have q : AftI Z Γ .im σ H1 U Rr (liftO (if -(2 ^ 62) ≤ j ∧ j < 2 ^ 62 then some (up 0 j.toNat) else none) ρ1) := q
        rw [if_pos h] at q
        exact ⟨j, by rw [show v = V.int j from hd.1], h.1, h.2, q _ H1 .refl R1 it_up⟩
      · have q : AftI Z Γ .im σ H1 U Rr (liftO (if -(2 ^ 62) ≤ j ∧ j < 2 ^ 62 then some (up 0 j.toNat) else none) ρ1) := q
        rw [if_neg h] at q
        exact q.elim
    | _ => exact q.elim⟩
theorem si_rg2 (hg : Gl X "range") (hm : X.mg "range" = none) (ha : SA X Z Γ [a, b] ψ [.v t1, .v t2]) (hs : starEach [a, b] X.env = [(false, eval a X.env), (false, eval b X.env)] := by rfl) (hs2 : starEach [b] X.env = [(false, eval b X.env)] := by rfl) : SI X Z Γ tg (.Call (.Name "range" p) [a, b] [] pos) (eRg rg2 ψ) .im := PI.imp (pi_range2 hg hm ha hs hs2) fun σ H Rr ⟨ρ, U, R, q⟩ =>
  ⟨ρ, U, R, AftI.bind q fun ds ρ1 vs H1 e1 R1 p1 q => by
    obtain ⟨d, r, v, s, rfl, rfl, hd, d2, r2, v2, s2, rfl, rfl, hd2, rfl, rfl⟩ := p1
    cases d with
    | int i =>
      cases d2 with
      | int j =>
        by_cases h : -(2 ^ 62) ≤ i ∧ i < 2 ^ 62 ∧ -(2 ^ 62) ≤ j ∧ j < 2 ^ 62
        · have q : AftI Z Γ .im σ H1 U Rr (liftO (if -(2 ^ 62) ≤ i ∧ i < 2 ^ 62 ∧ -(2 ^ 62) ≤ j ∧ j < 2 ^ 62 then some (up i (j - i).toNat) else none) ρ1) := q
          rw [if_pos h] at q
          exact ⟨i, j, by rw [show v = V.int i from hd.1, show v2 = V.int j from hd2.1], h, q _ H1 .refl R1 it_up⟩
        · have q : AftI Z Γ .im σ H1 U Rr (liftO (if -(2 ^ 62) ≤ i ∧ i < 2 ^ 62 ∧ -(2 ^ 62) ≤ j ∧ j < 2 ^ 62 then some (up i (j - i).toNat) else none) ρ1) := q
          rw [if_neg h] at q
          exact q.elim
      | _ => exact q.elim
    | _ => exact q.elim⟩
theorem si_rg3 (hg : Gl X "range") (hm : X.mg "range" = none) (ha : SA X Z Γ [a, b, c] ψ [.v t1, .v t2, .v t3]) (hs : starEach [a, b, c] X.env = (false, eval a X.env) :: starEach [b, c] X.env := by rfl) (hpl : (backTo pos (starEach [b, c] X.env)).any (·.1) = false := by rfl) : SI X Z Γ tg (.Call (.Name "range" p) [a, b, c] [] pos) (eRg rg3 ψ) .im := PI.imp (pi_range3 hg hm ha hs hpl) fun σ H Rr ⟨ρ, U, R, q⟩ =>
  ⟨ρ, U, R, AftI.bind q fun ds ρ1 vs H1 e1 R1 p1 q => by
    obtain ⟨d, r, v, s, rfl, rfl, hd, d2, r2, v2, s2, rfl, rfl, hd2, d3, r3, v3, s3, rfl, rfl, hd3, rfl, rfl⟩ := p1
    cases d with
    | int i =>
      cases d2 with
      | int j =>
        cases d3 with
        | int k =>
          by_cases h : (-(2 ^ 62) ≤ i ∧ i < 2 ^ 62 ∧ -(2 ^ 62) ≤ j ∧ j < 2 ^ 62) ∧ k = -1
          · have q : AftI Z Γ .im σ H1 U Rr (liftO (if (-(2 ^ 62) ≤ i ∧ i < 2 ^ 62 ∧ -(2 ^ 62) ≤ j ∧ j < 2 ^ 62) ∧ k = -1 then some (down i (i - j).toNat) else none) ρ1) := q
            rw [if_pos h] at q
            have q : AftI Z Γ .im σ H1 U Rr (VL.R.ok (down i (i - j).toNat) ρ1) := q
            obtain ⟨⟨h1, h2, h3, h4⟩, hk⟩ := h
            exact ⟨i, j, -1, _, by rw [show v = V.int i from hd.1, show v2 = V.int j from hd2.1, show v3 = V.int k from hd3.1, hk], RgC.neg h1 h2 h3 h4, q _ H1 .refl R1 it_down⟩
          · have q : AftI Z Γ .im σ H1 U Rr (liftO (if (-(2 ^ 62) ≤ i ∧ i < 2 ^ 62 ∧ -(2 ^ 62) ≤ j ∧ j < 2 ^ 62) ∧ k = -1 then some (down i (i - j).toNat) else none) ρ1) := q
            rw [if_neg h] at q
            exact q.elim
        | _ => exact q.elim
      | _ => exact q.elim
    | _ => exact q.elim⟩
end
end VL
/-! VL14: comprehensions. -/
namespace VL
open PySem L2

section
variable {K : PySem.W.Frag} {H H' : Hp} {U U' W W' : AS} {Γ Γ' : Gx} {ρ ρ' : List D} {σ σ' : L2.St} {a p : Addr} {t : Ty}
/-- alike at every slot of which something is known -/
structure SigEq (Γ : Gx) (σ σ' : L2.St) : Prop where
  len : σ'.length = σ.length
  sl : ∀ (i : Nat) (s : Slot), Γ[i]? = some s → s ≠ .un → σ'[i]? = σ[i]?
theorem SigEq.symm (h : SigEq Γ σ σ') : SigEq Γ σ' σ := ⟨h.len.symm, fun i s e n => (h.sl i s e n).symm⟩
theorem SigEq.wr (h : SigEq Γ σ σ') {x : Addr} (z : Wr Γ σ' x) : Wr Γ σ x := let ⟨i, t, h1, h2⟩ := z; ⟨i, t, h1, by rw [← h.sl i _ h1 (by simp)]; exact h2⟩
theorem Rel.sig (R : Rel K Γ U ρ σ H) (h : SigEq Γ σ σ') : Rel K Γ U ρ σ' H := by
  have wa : ∀ x, Wa Γ σ' U x → Wa Γ σ U x := fun x z => z.imp h.wr id
  refine ⟨R.len.trans h.len.symm, R.glen.trans h.len.symm, fun i t e => ?_, fun i t e => ?_, fun i j t u a e1 e2 e3 e4 => ?_, R.trk⟩
  · obtain ⟨d, v, h1, h2, h3, h4⟩ := R.fz i t e
    exact ⟨d, v, h1, by rw [h.sl i _ e (by simp)]; exact h2, h3.mono fun x z => .inl (wa x z), h4⟩
  · obtain ⟨d, v, h1, h2, h3, h4, h5⟩ := R.own i t e
    exact ⟨d, v, h1, by rw [h.sl i _ e (by simp)]; exact h2, h3.mono fun x z => .inl (wa x z), h4, h5⟩
  · rw [h.sl i _ e1 (by simp)] at e3
    rw [h.sl j _ e2 (by simp)] at e4
    exact R.inj i j t u a e1 e2 e3 e4
theorem wipe_at {vs : List Nat} {i : Nat} (h : i ∈ vs) : (wipe σ vs)[i]? = if i < σ.length then some none else none := by
  induction vs with
  | nil => cases h
  | cons v vs ih =>
    show ((wipe σ vs).set v none)[i]? = _
    by_cases e : v = i
    · subst e
      by_cases l : v < σ.length
      · rw [List.getElem?_set_self (by rw [wipe_length]; exact l), if_pos l]
      · rw [List.getElem?_eq_none (by rw [List.length_set, wipe_length]; omega), if_neg l]
    · rw [List.getElem?_set_ne e]
      exact ih ((List.mem_cons.mp h).resolve_left fun z => e z.symm)
theorem wipe_eq {vs : List Nat} (hl : σ'.length = σ.length) (h : ∀ i, i ∉ vs → σ'[i]? = σ[i]?) : wipe σ' vs = wipe σ vs := by
  refine List.ext_getElem? fun i => ?_
  by_cases m : i ∈ vs
  · rw [wipe_at m, wipe_at m, hl]
  · rw [wipe_out m, wipe_out m, h i m]
def unAt (Γ : Gx) (vs : List Nat) : Bool := vs.all fun i => match Γ[i]? with
  | some .un => true
  | _ => false
theorem unAt_sig {vs : List Nat} (h : unAt Γ vs = true) : SigEq Γ σ (wipe σ vs) := ⟨wipe_length σ vs, fun i s e n => wipe_out fun m => by
  have := List.all_eq_true.mp h i m
  rw [e] at this
  cases s with
  | un => exact n rfl
  | _ => cases this⟩
/-- an object of others is rewritten -/
theorem Rel.updU (R : Rel K Γ U ρ σ H) {xs ys : List V} (hp : U p) (hH : H p = some (.lst xs)) : Rel K Γ U ρ σ (upd H p (.lst ys)) := by
  have e : Ext H (Wa Γ σ U) (upd H p (.lst ys)) := Ext.upd hH (fun _ z => by cases z) (.inr hp)
  refine ⟨R.len, R.glen, fun j u h => ?_, fun j u h => ?_, R.inj, fun x z => e.there x (R.trk x z)⟩
  · obtain ⟨d, v, h1, h2, h3, h4⟩ := R.fz j u h
    exact ⟨d, v, h1, h2, Fz.ext (fun _ z => z) e h3, h4⟩
  · obtain ⟨d, b, h1, h2, h3, h4, h5⟩ := R.own j u h
    have nb : b ≠ p := fun z => h5 (by rw [z]; exact hp)
    refine ⟨d, b, h1, h2, ?_, h4, h5⟩
    rcases h3 with ⟨ds, xs, k1, k2, k3⟩ | ⟨ds, xs, k1, k2, k3⟩
    · exact .inl ⟨ds, xs, k1, by rw [upd_ne nb]; exact k2, FzL.ext (fun _ z => z) e k3⟩
    · exact .inr ⟨ds, xs, k1, by rw [upd_ne nb]; exact k2, FzM.ext (fun _ z => z) e k3⟩
end

def R.nox {α : Type} : R α → R α
  | .ok a ρ => .ok a ρ
  | _ => .bad
def lcL (tp : TP) (ψ : EM Bool) (φ : EM D) : List D → List D → List D → R (List D)
  | [], acc, ρ => .ok acc ρ
  | d :: ds, acc, ρ => match tp.bind d ρ with
    | none => .bad
    | some ρ => (ψ ρ).bind fun b ρ => if b = true then (φ ρ).bind fun y ρ => if acc.length < sizeLine then lcL tp ψ φ ds (acc ++ [y]) ρ else .bad else lcL tp ψ φ ds acc ρ
def eLc (χ : EM (List D)) (tp : TP) (ψ : EM Bool) (φ : EM D) : EM D := fun ρ => (χ ρ).bind fun ds ρ => (lcL tp ψ φ ds [] ρ).nox.bind fun acc ρ => .ok (.lst acc) ρ
/-- within a block: no exception leaves it -/
def Zx.blk (Z : Zx) : Zx := { Z with E := fun _ _ _ _ => False, ΓX := List.replicate Z.ΓX.length .un }
section
variable {X : Cx} {Z : Zx} {L : Lp} {Γ Γ' : Gx} {e elt tg iter : Expr} {ifs : List Expr} {χ : EM (List D)} {φ : EM D} {ψ : EM Bool} {t u : Ty} {pos spos : Pos} {tp : TP} {g : TG} {own : List (Str × Nat)} {scope : Scope}
theorem fz_core {σ : L2.St} {H : Hp} {Q : VK} (h : Tof Z Γ φ (Pf Z.K t) σ H Q) : TofN Z Γ φ t σ H Q := by
  obtain ⟨ρ, U, R, q⟩ := h
  refine ⟨ρ, U, R, ?_⟩
  revert q
  cases φ ρ with
  | bad => exact fun q => q
  | exc c p ρ' => exact fun q => q
  | ok d ρ' =>
    intro q p H' e1 hp R1 o1 td
    have sub : ∀ x, U x → UN U p x := fun x z => .inl z
    exact q (.ref p) H' e1 (R1.lessU sub) ⟨o1.fz (fun z => z.elim R1.notWr fun z => R.trk p z hp) fun x z => .inl (wa_sub sub x z), td⟩
/-- what is left of a comprehension -/
def LcFin (Z : Zx) (Γ : Gx) (t : Ty) (σ : L2.St) (H1 : Hp) (U : AS) (p : Addr) (Q : VK) : R (List D) → Prop
  | .ok acc ρ' => ∀ H' vs, Ext H1 (Wr Γ σ) H' → H' p = some (.lst vs) → FzL Z.K H' (Wa Γ σ (UN U p)) acc vs → (∀ d ∈ acc, t.has d) → Rel Z.K Γ (UN U p) ρ' σ H' → Q (.ref p) H'
  | _ => False
theorem lc_core2 (hi : unAt Γ (own.map (·.2)) = true) (hsl : (tp.slots.all fun i => (own.map (·.2)).contains i) = true) (hle : Gx.le (tp.ctx u Γ) Γ = true)
    (hg : GS Z.blk tp g) {σ : L2.St} {H : Hp} {Q : VK} (h : TofN Z Γ (eLc χ tp ψ φ) (.L t) σ H Q) :
    tLc (TIof Z Γ χ u) g (Tof Z.blk (tp.ctx u Γ) ψ Pb) (Tof Z.blk (tp.ctx u Γ) φ (Pf Z.K t)) (own.map (·.2)) σ H Q := by
  obtain ⟨ρ, U, R, q⟩ := h
  refine ⟨ρ, U, R, ?_⟩
  unfold eLc at q
  revert q
  cases χ ρ with
  | bad => exact fun q => q
  | exc c p ρ' => exact fun q => q
  | ok ds ρ1 =>
    intro q J H1 e1 R1 it p hp
    have q : AftN Z Γ (.L t) σ H U Q ((lcL tp ψ φ ds [] ρ1).nox.bind fun acc ρ => .ok (.lst acc) ρ) := q
    have q1 := AftN.later q e1
    obtain ⟨G, Y, w, hG, hu, hY⟩ := it
    generalize hvs : own.map (·.2) = vs at hi hsl ⊢
    have sg : SigEq Γ σ (wipe σ vs) := unAt_sig hi
    have hsl' : ∀ i, i ∈ tp.slots → i ∈ vs := fun i m => by
      have := List.all_eq_true.mp hsl i m
      simpa using this
    have fin : LcFin Z Γ t σ H1 U p Q (lcL tp ψ φ ds [] ρ1) := by
      revert q1
      cases lcL tp ψ φ ds [] ρ1 with
      | bad => exact fun q => q
      | exc c p ρ' => exact fun q => q
      | ok acc ρ' => exact fun q H' vs' e k1 k2 k3 R' => q p H' e hp R' (.inl ⟨acc, vs', rfl, k1, k2⟩) ⟨acc, rfl, k3⟩
    have wUN : ∀ x, Wa Γ σ (UN U p) x → Wa Γ σ U x ∨ H1 x = none := fun x z => z.elim (fun z => .inl (.inl z)) fun z => z.elim (fun z => .inl (.inr z)) fun z => .inr (by rw [z]; exact hp)
    refine lc_it w (fun i H' => Ext H1 (Wr Γ σ) H' ∧ ∃ acc ρ' ws, H' p = some (.lst ws) ∧ FzL Z.K H' (Wa Γ σ (UN U p)) acc ws ∧ (∀ d ∈ acc, t.has d) ∧ Rel Z.K Γ (UN U p) ρ' σ H' ∧ LcFin Z Γ t σ H1 U p Q (lcL tp ψ φ (ds.drop i) acc ρ'))
      ⟨Ext.new hp, [], ρ1, [], upd_same, rfl, (fun d hd => (List.not_mem_nil hd).elim), R1.new hp, by rw [List.drop_zero]; exact fin⟩ (fun i H' _ P => hG H' P.1) (fun i x H' H2 hlt P y => ?_) (fun H' P => ?_)
    · obtain ⟨ex, acc, ρ', ws, kp, kf, kt, R', fin⟩ := P
      obtain ⟨e2, d, hd, fd⟩ := hY i H' x H2 (Wa Γ σ (UN U p)) ex wUN y
      have hdr : ds.drop i = d :: ds.drop (i + 1) := by
        rw [List.drop_eq_getElem_cons hlt]
        congr 1
        rw [List.getElem?_eq_getElem hlt] at hd
        exact Option.some.inj hd
      rw [hdr] at fin
      have fin : LcFin Z Γ t σ H1 U p Q (match tp.bind d ρ' with
        | none => .bad
        | some ρ => (ψ ρ).bind fun b ρ => if b = true then (φ ρ).bind fun y ρ => if acc.length < sizeLine then lcL tp ψ φ (ds.drop (i + 1)) (acc ++ [y]) ρ else .bad else lcL tp ψ φ (ds.drop (i + 1)) acc ρ) := fin
      cases hb : tp.bind d ρ' with
      | none =>
        rw [hb] at fin
        exact fin.elim
      | some ρ2 =>
        rw [hb] at fin
        have fin : LcFin Z Γ t σ H1 U p Q ((ψ ρ2).bind fun b ρ => if b = true then (φ ρ).bind fun y ρ => if acc.length < sizeLine then lcL tp ψ φ (ds.drop (i + 1)) (acc ++ [y]) ρ else .bad else lcL tp ψ φ (ds.drop (i + 1)) acc ρ) := fin
        refine hg Γ (UN U p) ρ' ρ2 (wipe σ vs) H2 d x u _ ((R'.same e2).sig sg) (fd.mono fun x z => .inl (z.imp sg.wr id)) (hu d (List.mem_of_getElem? hd)) hb fun σ2 o => ⟨?_, ρ2, UN U p, o.rel, ?_⟩
        · refine wipe_eq (o.len.trans sg.len) fun j m => ?_
          rw [o.out j fun z => m (hsl' j z), wipe_out m]
        have w2 : ∀ x, Wr (tp.ctx u Γ) σ2 x → Wr Γ σ x := fun x z => sg.wr (o.wr x z)
        have sg2 : SigEq Γ σ2 σ := by
          refine ⟨(o.len.trans sg.len).symm, fun j s e n => ?_⟩
          have nj : j ∉ vs := fun m => by
            have := List.all_eq_true.mp hi j m
            rw [e] at this
            cases s with
            | un => exact n rfl
            | _ => cases this
          rw [o.out j fun z => nj (hsl' j z), wipe_out nj]
        have ex2 : Ext H1 (Wr Γ σ) H2 := ex.trans (ext_mono e2)
        have nw : ∀ {H' : Hp}, Ext H2 (Wr (tp.ctx u Γ) σ2) H' → H' p = some (.lst ws) ∧ FzL Z.K H' (Wa Γ σ (UN U p)) acc ws ∧ Ext H1 (Wr Γ σ) H' := fun {H'} e3 => by
          have e3' : Ext H2 (Wr Γ σ) H' := e3.mono w2
          have kp2 : H2 p = some (.lst ws) := e2.keep p _ kp fun z => z
          refine ⟨e3'.keep p _ kp2 fun z => (R'.wr z).2 (.inr rfl), FzL.ext (fun x z => .inl z) e3' (FzL.ext (fun _ z => z.elim) e2 kf), ex2.trans e3'⟩
        revert fin
        cases ψ ρ2 with
        | bad => exact fun fin => fin
        | exc c p ρ' => exact fun fin => fin.elim
        | ok b ρ3 =>
          intro fin b' H3 e3 R3 p3
          have p3' : b = b' := p3
          subst p3'
          cases b with
          | false =>
            obtain ⟨k1, k2, k3⟩ := nw e3
            rw [if_neg Bool.false_ne_true]
            exact ⟨k3, acc, ρ3, ws, k1, k2, kt, (R3.weak hle).sig sg2, fin⟩
          | true =>
            rw [if_pos rfl]
            have fin : LcFin Z Γ t σ H1 U p Q ((φ ρ3).bind fun y ρ => if acc.length < sizeLine then lcL tp ψ φ (ds.drop (i + 1)) (acc ++ [y]) ρ else .bad) := fin
            refine ⟨ρ3, UN U p, R3, ?_⟩
            revert fin
            cases φ ρ3 with
            | bad => exact fun fin => fin
            | exc c p ρ' => exact fun fin => fin.elim
            | ok y ρ4 =>
              intro fin v H4 e4 R4 p4
              obtain ⟨k1, k2, k3⟩ := nw (e3.trans e4)
              have fin : LcFin Z Γ t σ H1 U p Q (if acc.length < sizeLine then lcL tp ψ φ (ds.drop (i + 1)) (acc ++ [y]) ρ4 else .bad) := fin
              by_cases hl : acc.length < sizeLine
              · rw [if_pos hl] at fin
                have R4' : Rel Z.K Γ (UN U p) ρ4 σ H4 := (R4.weak hle).sig sg2
                have e5 : Ext H4 (Wa Γ σ (UN U p)) (L2.upd H4 p (.lst (ws ++ [v]))) := Ext.upd k1 (fun _ z => by cases z) (.inr (.inr rfl))
                have fy : Fz Z.K H4 (Wa Γ σ (UN U p)) y v := p4.1.mono fun x z => .inl (z.imp (fun ⟨j, u', z1, z2⟩ => by
                  obtain ⟨b, hb', q2⟩ := Gx.le_at hle z1
                  cases b with
                  | un => cases q2
                  | fz _ => cases q2
                  | own w' => exact ⟨j, w', hb', by rw [← sg2.sl j _ z1 (by simp)]; exact z2⟩) id)
                refine ⟨ws, k1, by rw [← k2.length]; exact hl, ?_⟩
                refine ⟨⟨fun a o e n => ?_, fun a xs e => ?_, fun a e => ?_⟩, acc ++ [y], ρ4, ws ++ [v], upd_same, FzL.ext (fun _ z => z) e5 (k2.append (.one fy)), fun d hd => ?_, R4'.updU (.inr rfl) k1, fin⟩
                · have na : a ≠ p := fun z => by
                    rw [z, hp] at e
                    cases e
                  rw [upd_ne na]
                  exact k3.keep a o e n
                · have na : a ≠ p := fun z => by
                    rw [z, hp] at e
                    cases e
                  rw [upd_ne na]
                  exact k3.tup a xs e
                · have na : a ≠ p := fun z => by
                    rw [z, hp] at e
                    exact e rfl
                  rw [upd_ne na]
                  exact k3.there a e
                · rcases List.mem_append.mp hd with z | z
                  · exact kt d z
                  · rw [List.mem_singleton.mp z]; exact p4.2
              · rw [if_neg hl] at fin
                exact fin.elim
    · obtain ⟨ex, acc, ρ', ws, kp, kf, kt, R', fin⟩ := P
      rw [List.drop_length] at fin
      exact fin H' ws ex kp kf kt R'

variable {i : Nat} {y : Str} {py : Pos}
theorem sn_lc (hc : X.calm = true) (hN : X.N.Nodup) (hi : SI X Z Γ tg iter χ u) (ok : BlkOk X.N X.env.scope scope own)
    (hg : ∀ (s : Shared) (H : Hp) (C : Addr) (cl : List (Str × Addr)) (fp : List Addr), GSx (X.blk s H scope (compEnvC scope cl C X.env) fp) Z.blk tp tg g)
    (ht : ∀ (s : Shared) (H : Hp) (C : Addr) (cl : List (Str × Addr)) (fp : List Addr), PTs (X.blk s H scope (compEnvC scope cl C X.env) fp) ifs (Tof Z.blk (tp.ctx u Γ) ψ Pb))
    (he : ∀ (s : Shared) (H : Hp) (C : Addr) (cl : List (Str × Addr)) (fp : List Addr), SE (X.blk s H scope (compEnvC scope cl C X.env) fp) Z.blk (tp.ctx u Γ) elt φ t)
    (hu : unAt Γ (own.map (·.2)) = true := by rfl) (hsl : (tp.slots.all fun i => (own.map (·.2)).contains i) = true := by rfl) (hle : Gx.le (tp.ctx u Γ) Γ = true := by rfl) (hs : ∀ x, foldedSetIterable iter X.env x = pure x := by intro _; rfl) :
    SN X Z Γ (.ListComp elt [⟨tg, iter, ifs, 0⟩] scope pos) (eLc χ tp ψ φ) (.L t) := PE.imp (pe_lc hc hN hi ok (fun s H C cl fp => (hg s H C cl fp).pg) ht he hs) fun σ H Q h =>
  lc_core2 hu hsl hle (hg {} H 0 [] []).gs h
/-- name = [..] on one row, the name a local -/
theorem ss_setLcN (hc : X.calm = true) (hN : X.N.Nodup) (hy : X.N[i]? = some y) (hyl : X.env.scope.names.lookup y = some .local)
    (hsw : swapsWith (.ListComp elt [⟨tg, iter, ifs, 0⟩] scope pos) (some (.Name y py)) spos.line X.env = pure true) (hi : SI X Z Γ tg iter χ u) (ok : BlkOk X.N X.env.scope scope own)
    (hg : ∀ (s : Shared) (H : Hp) (C : Addr) (cl : List (Str × Addr)) (fp : List Addr), GSx (X.blk s H scope (compEnvC scope cl C X.env) fp) Z.blk tp tg g)
    (ht : ∀ (s : Shared) (H : Hp) (C : Addr) (cl : List (Str × Addr)) (fp : List Addr), PTs (X.blk s H scope (compEnvC scope cl C X.env) fp) ifs (Tof Z.blk (tp.ctx u Γ) ψ Pb))
    (he : ∀ (s : Shared) (H : Hp) (C : Addr) (cl : List (Str × Addr)) (fp : List Addr), SE (X.blk s H scope (compEnvC scope cl C X.env) fp) Z.blk (tp.ctx u Γ) elt φ t)
    (hu : unAt Γ (own.map (·.2)) = true := by rfl) (hsl : (tp.slots.all fun i => (own.map (·.2)).contains i) = true := by rfl) (hle : Gx.le (tp.ctx u Γ) Γ = true := by rfl)
    (hX : Gx.le Γ Z.ΓX = true := by rfl) (hr : Z.Γr[i]? = some .un := by rfl) (hs : ∀ x, foldedSetIterable iter X.env x = pure x := by intro _; rfl) :
    SS X Z L Γ (Γ.set i (.own (.L t))) (.Assign [.Name y py] (.ListComp elt [⟨tg, iter, ifs, 0⟩] scope pos) spos) (sSet i (eLc χ tp ψ φ)) := PS.imp (ps_setLc hc hN hy hyl hsw hi ok (fun s H C cl fp => (hg s H C cl fp).pg) ht he hs) fun D σ H h =>
  lc_core2 hu hsl hle (hg {} H 0 [] []).gs (setN_core hX hr h)
theorem ss_setLc (hc : X.calm = true) (hN : X.N.Nodup) (hy : X.N[i]? = some y) (hyl : X.env.scope.names.lookup y = some .local)
    (hsw : swapsWith (.ListComp elt [⟨tg, iter, ifs, 0⟩] scope pos) (some (.Name y py)) spos.line X.env = pure true) (hi : SI X Z Γ tg iter χ u) (ok : BlkOk X.N X.env.scope scope own)
    (hg : ∀ (s : Shared) (H : Hp) (C : Addr) (cl : List (Str × Addr)) (fp : List Addr), GSx (X.blk s H scope (compEnvC scope cl C X.env) fp) Z.blk tp tg g)
    (ht : ∀ (s : Shared) (H : Hp) (C : Addr) (cl : List (Str × Addr)) (fp : List Addr), PTs (X.blk s H scope (compEnvC scope cl C X.env) fp) ifs (Tof Z.blk (tp.ctx u Γ) ψ Pb))
    (he : ∀ (s : Shared) (H : Hp) (C : Addr) (cl : List (Str × Addr)) (fp : List Addr), SE (X.blk s H scope (compEnvC scope cl C X.env) fp) Z.blk (tp.ctx u Γ) elt φ t)
    (hu : unAt Γ (own.map (·.2)) = true := by rfl) (hsl : (tp.slots.all fun i => (own.map (·.2)).contains i) = true := by rfl) (hle : Gx.le (tp.ctx u Γ) Γ = true := by rfl)
    (hX : Gx.le Γ Z.ΓX = true := by rfl) (hr : Z.Γr[i]? = some .un := by rfl) (hs : ∀ x, foldedSetIterable iter X.env x = pure x := by intro _; rfl) :
    SS X Z L Γ (Γ.set i (.fz (.L t))) (.Assign [.Name y py] (.ListComp elt [⟨tg, iter, ifs, 0⟩] scope pos) spos) (sSet i (eLc χ tp ψ φ)) := PS.imp (ps_setLc hc hN hy hyl hsw hi ok (fun s H C cl fp => (hg s H C cl fp).pg) ht he hs) fun D σ H h =>
  lc_core2 hu hsl hle (hg {} H 0 [] []).gs (fz_core (set_core hX hr h))
/-- the tests of a block: none, one -/
def eYes : EM Bool := fun ρ => .ok true ρ
theorem pts_no : PTs X [] (Tof Z Γ eYes Pb) := ⟨fun pins s σ H Q I h => pts_nil.run pins s σ H Q I (by
  obtain ⟨ρ, U, R, q⟩ := h
  exact q true H .refl R rfl)⟩
theorem pts_1 {c : Expr} (h : ST X Z Γ c ψ) : PTs X [c] (Tof Z Γ ψ Pb) := pts_one h
end
end VL
/-! VL15: more walks: reversed, enumerate, zip; join. -/
namespace L2
open PySem PyProof.Rows PySem.Spec
/-- n pairs, each new, told by f -/
def ItP (n : Nat) (f : Nat → V × V) : It where
  go := fun i _ => i < n
  yld := fun i H v H' => ∃ T, v = .ref T ∧ H T = none ∧ H' = upd H T (.tup [(f i).1, (f i).2])
  stop := fun i _ => n ≤ i
/-- an iterator that hands out tuples of two, told by WalksT, as a Turn -/
theorem turn_pairs {P : Program} {w : World} {K : PySem.W.Frag} {elts : List Expr} {kk n : Nat} {tpos : Pos} {e : Addr} {fp wr : List Addr} {Pt : Nat → Array Value → Prop} {St : Nat → Heap → Prop} {Mid : Nat → Addr → Heap → Prop} {f : Nat → V × V}
    (W : ∀ A : Around, A.handled = none → WalksT P w A e fp wr n Pt St Mid) (hp : ∀ i vals, i < n → Pt i vals → ∃ u v, vals = #[u, v] ∧ RelV (f i).1 u ∧ RelV (f i).2 v) (he : e ∈ fp)
    (live : ∀ i h, St i h → ∀ b ∈ fp, ∃ o, h.get? b = some o ∧ ∀ v, o.data ≠ .cell v) (h0 : ∃ A : Around, A.handled = none)
    (hs : ∀ (A : Around) (i : Nat) (s : Shared) (Q : Value → Shared → Prop) (E : Value → Shared → Prop), St i s.heap → Q (.ref e) s → wpAny (model P w) A (pyIter (.ref e)) Q E s) :
    Turn P w K (.Tuple elts kk tpos) (ItP n f) fp e (fun i h => St i h ∧ i ≤ n) where
  mem := he
  obj := fun i h q => live i h q.1
  keep := fun i h h' q k => ⟨(W h0.choose h0.choose_spec).frame i h h' q.1 k, q.2⟩
  item := fun X eP ew _ hc i pins s σ H E I free q hi => by
    cases eP
    cases ew
    have Wk := W X.A (I.ok.hd hc)
    refine Wk.item i s _ E hi q.1 fun T vals h1 tk hv hT ht mid k1 => ⟨_, rfl, Wk.go elts kk tpos i T { s with heap := h1, toks := tk } _ E mid fun h2 st2 k2 => ?_⟩
    obtain ⟨u, v, rfl, ru, rv⟩ := hp i vals hi hv
    obtain ⟨o, ho, oc, m, od⟩ := ht
    have there : h2.get? T = some o := k2 T o (Wk.apart i T h1 mid) ho
    have ok : ObjOk X.prog X.w (upd H T (.tup [(f i).1, (f i).2])) h2 T (.tup [(f i).1, (f i).2]) := ⟨show 2 ≤ sizeLine by decide, [u, v], .cons ru (.cons rv .nil), o, there, oc, m, od⟩
    have I2 := I.turnedNew (t' := tk) (fun b ob nb g => k2 b ob nb (k1 b ob nb g)) (fun b hb => free b (Wk.sub b hb)) hT ok
    refine ⟨.ref T, _, I2, rfl, ⟨T, rfl, I.hok.fresh hT, rfl⟩, ⟨st2, hi⟩, fun b hb => ?_⟩
    obtain ⟨ob, hob, _⟩ := live i s.heap q.1 b hb
    have ne : b ≠ T := Nat.ne_of_lt (Nat.lt_of_lt_of_le (Heap.lt_size hob) hT)
    rw [upd_ne ne, (free b hb).1]
  done := fun X eP ew _ hc i pins s σ H E I free q hi => by
    cases eP
    cases ew
    cases Nat.le_antisymm q.2 (show n ≤ i from hi)
    have Wk := W X.A (I.ok.hd hc)
    exact Wk.done s _ E q.1 fun h1 tk k1 => ⟨rfl, I.turnedL (t' := tk) k1 fun b hb => free b (Wk.sub b hb)⟩
  self := fun A i s Q E q h => hs A i s Q E q.1 h
/-- a text's signs with their numbers -/
def sgn (z : Str) (i : Nat) : V × V := (.int (i : Int), .str ⟨#[z.cps.getD i 0]⟩)
theorem turn_signs {P : Program} {w : World} {K : PySem.W.Frag} {elts : List Expr} {kk : Nat} {tpos : Pos} {z : Str} {t : Tok} {e it : Addr} (ne : e ≠ it) (h0 : ∃ A : Around, A.handled = none) :
    Turn P w K (.Tuple elts kk tpos) (ItP z.cps.size (sgn z)) [e, it] e (fun i h => ((∃ old, IsEnum h e it (0 + (i : Int)) old) ∧ h.IsStrIter it (strIterType z) z t i) ∧ i ≤ z.cps.size) := by
  refine turn_pairs (wr := [e, it]) (fun A hh => WalksT.enumFrom 0 (Draws.text (A := A.in1) hh it z t) e ne (fun m => ne (List.mem_singleton.mp m)) (List.mem_singleton.mpr rfl)) ?_ List.mem_cons_self ?_ h0 ?_
  · rintro i vals hi ⟨k, x, ⟨c, u, hc, rfl⟩, rfl⟩
    refine ⟨_, _, rfl, ⟨k, ?_⟩, ⟨u, ?_⟩⟩
    · rw [Int.zero_add]
    · rw [Array.getD_eq_getD_getElem?, hc]
      rfl
  · rintro i h ⟨⟨old, h1⟩, o, h2, _, hd⟩ b hb
    rcases List.mem_cons.mp hb with rfl | hb
    · exact ⟨_, h1, fun v q => nomatch q⟩
    · cases List.mem_singleton.mp hb
      exact ⟨o, h2, fun v q => nomatch hd.symm.trans q⟩
  · exact fun A i s Q E q h => let ⟨⟨_, g⟩, _⟩ := q; wpAny_pyIter_enum g h
def iSigns (ta : TA) : TI := fun σ H R => ta σ H fun vs H1 => ∃ z, vs = [.str z] ∧ R (ItP z.cps.size (sgn z)) H1
theorem pi_signs {X : Cx} {e : Expr} {ta : TA} {p pos tpos : Pos} {elts : List Expr} {kk : Nat} (hc : X.calm = true) (hg : Gl X "enumerate") (hm : X.mg "enumerate" = none) (ha : PA X [e] ta) (hs : starEach [e] X.env = [(false, eval e X.env)] := by rfl) :
    PI X (.Tuple elts kk tpos) (.Call (.Name "enumerate" p) [e] [] pos) (iSigns ta) := .mk fun pins s σ H R I h => by
  have arg := ha.run pos pins s σ H _ I h
  refine Call_ (ld_blt I hg hm boot_enumerate (callWith_type1 (thn arg fun us s1 got => ?_) hs rfl))
  obtain ⟨vs, H1, I1, r1, z, rfl, q⟩ := got
  obtain ⟨u, rfl, t, rfl⟩ := r1.one
  refine call_enumerate_str fun h1 isE isS _ kept => wpAny_pyIter_enum isE ?_
  have fresh : ∀ b, s1.heap.objs.size ≤ b → FpOk X pins H1 b := fun b hb => I1.fpOk hb (I1.hok.fresh hb)
  refine ⟨_, [s1.heap.objs.size + 1, s1.heap.objs.size], _, _, H1, rfl, I1.kept (t' := s1.toks) kept, turn_signs (Nat.succ_ne_self _) ⟨X.A, I1.ok.hd hc⟩, ⟨⟨⟨_, isE⟩, isS⟩, Nat.zero_le _⟩, fun b hb => ?_, q⟩
  rcases List.mem_cons.mp hb with rfl | hb
  · exact fresh _ (Nat.le_succ _)
  · cases List.mem_singleton.mp hb
    exact fresh _ (Nat.le_refl _)
theorem walk_pairs {n : Nat} {f : Nat → V × V} : Walk (ItP n f) n (fun _ => True) (YPair (fun i => some (f i).1) (fun i => some (f i).2)) :=
  ⟨fun _ _ h _ => h, fun _ _ => Nat.le_refl n, fun _ _ _ _ _ _ ⟨T, h1, h2, h3⟩ => ⟨T, _, _, h1, h2, h3, rfl, rfl⟩⟩
end L2
namespace VL
open PySem L2
section
variable {X : Cx} {Z : Zx} {Γ Γ' : Gx} {e a b tg : Expr} {φ φa φb : EM D} {ψ : EM (List D)} {t u ta tb : Ty} {pos p tpos : Pos} {elts : List Expr} {kk : Nat} {ks : List AK}
/-- pairs -/
theorem it_pair {J : It} {n : Nat} {G : Hp → Prop} {f g : Nat → Option V} {ds : List D} {W W0 : AS} {H : Hp} {ta tb : Ty} (w : Walk J n G (YPair f g)) (hl : ds.length = n) (hG : ∀ H', Ext H W0 H' → G H')
    (hd : ∀ i, i < n → ∃ x y, ds[i]? = some (.tup [x, y]) ∧ ta.has x ∧ tb.has y ∧ ∀ H' W' vx vy, Ext H W0 H' → (∀ z, W' z → W z ∨ H z = none) → f i = some vx → g i = some vy → Fz Z.K H' W' x vx ∧ Fz Z.K H' W' y vy) : ItOk Z W W0 J ds (.T [ta, tb]) H := by
  refine ⟨G, fun i H x H' => i < n ∧ YPair f g i H x H', by rw [hl]; exact w.mono (fun _ h => h) fun i H x H' hi _ y => ⟨hi, y⟩, hG, fun d hd' => ?_, fun i H1 x H2 W' e hw y => ?_⟩
  · obtain ⟨i, hi⟩ := List.getElem?_of_mem hd'
    have hlt : i < n := by rw [← hl]; exact (List.getElem?_eq_some_iff.mp hi).1
    obtain ⟨x, y, e, hx, hy, _⟩ := hd i hlt
    rw [e] at hi
    cases hi
    exact ⟨[x, y], rfl, x, [y], rfl, hx, y, [], rfl, hy, rfl⟩
  · obtain ⟨hi, T, vx, vy, rfl, hT, rfl, hf, hg⟩ := y
    obtain ⟨x, y, e', hx, hy, k⟩ := hd i hi
    have e2 : Ext H1 (fun _ => False) (L2.upd H1 T (.tup [vx, vy])) := Ext.new hT
    obtain ⟨k1, k2⟩ := k H1 W' vx vy e hw hf hg
    exact ⟨e2, .tup [x, y], e', T, [vx, vy], rfl, .inl upd_same, vx, [vy], rfl, Fz.ext (fun _ z => z.elim) e2 k1, vy, [], rfl, Fz.ext (fun _ z => z.elim) e2 k2, rfl⟩
def enumL : Nat → List D → List D
  | _, [] => []
  | n, d :: ds => .tup [.int n, d] :: enumL (n + 1) ds
theorem enumL_len : ∀ {n : Nat} {ds : List D}, (enumL n ds).length = ds.length
  | _, [] => rfl
  | n, d :: ds => by rw [enumL, List.length_cons, List.length_cons, enumL_len]
theorem enumL_at : ∀ {n i : Nat} {ds : List D} {d : D}, ds[i]? = some d → (enumL n ds)[i]? = some (.tup [.int (n + i : Nat), d])
  | n, 0, x :: ds, d, h => by
    have e : x = d := by simpa using h
    subst e
    rfl
  | n, i + 1, x :: ds, d, h => by
    have := enumL_at (n := n + 1) (i := i) (ds := ds) (d := d) (by simpa using h)
    rw [enumL, List.getElem?_cons_succ, this]
    congr 4
    omega
  | _, 0, [], _, h => by simp at h
  | _, i + 1, [], _, h => by simp at h
def rEnum (ds : List D) (ρ : List D) : R (List D) := match ds with
  | [.lst xs] => .ok (enumL 0 xs) ρ
  | [.str z] => .ok (enumL 0 (signs z)) ρ
  | _ => .bad
def eEnum (ψ : EM (List D)) : EM (List D) := fun ρ => (ψ ρ).bind rEnum
theorem si_enumL (hK : Z.K = X.K) (hg : Gl X "enumerate") (hm : X.mg "enumerate" = none) (ha : SA X Z Γ [e] ψ [.v (.L t)]) (hs : starEach [e] X.env = [(false, eval e X.env)] := by rfl) : SI X Z Γ (.Tuple elts kk tpos) (.Call (.Name "enumerate" p) [e] [] pos) (eEnum ψ) (.T [.im, t]) := PI.imp (pi_enum hg hm ha hs) fun σ H Rr ⟨ρ, U, R, q⟩ =>
  ⟨ρ, U, R, AftI.bind q fun ds ρ1 vs H1 e1 R1 p1 q => by
    obtain ⟨d, r, v, s, rfl, rfl, ⟨hd, ds, rfl, ht⟩, rfl, rfl⟩ := p1
    obtain ⟨a, xs, rfl, sa, fa⟩ := hd
    refine ⟨a, xs, rfl, hK ▸ sa.sq, q _ H1 .refl R1 ?_⟩
    refine hK ▸ it_pair (walk_enum (K := Z.K) (a := a) (xs := xs)) (enumL_len.trans fa.length) (fun H' e => (sa.ext (fun x z => .inl z) e).sq) fun i hi => ?_
    have hi' : i < ds.length := by rw [fa.length]; exact hi
    refine ⟨.int (0 + i : Nat), ds[i], enumL_at (List.getElem?_eq_getElem hi'), rfl, ht _ (List.getElem_mem hi'), fun H' W' vx vy e hw h1 h2 => ⟨?_, ?_⟩⟩
    · cases h1
      show V.int _ = V.int _
      rw [Nat.zero_add]
    · obtain ⟨v, hv, fv⟩ := fa.get (List.getElem?_eq_getElem hi')
      rw [hv] at h2
      cases h2
      exact fv.ext2 (fun x z => .inl z) e hw⟩
theorem si_enumS (hc : X.calm = true) (hg : Gl X "enumerate") (hm : X.mg "enumerate" = none) (ha : SA X Z Γ [e] ψ [.v .im]) (hs : starEach [e] X.env = [(false, eval e X.env)] := by rfl) : SI X Z Γ (.Tuple elts kk tpos) (.Call (.Name "enumerate" p) [e] [] pos) (eEnum ψ) (.T [.im, .im]) := PI.imp (pi_signs hc hg hm ha hs) fun σ H Rr ⟨ρ, U, R, q⟩ =>
  ⟨ρ, U, R, AftI.bind q fun ds ρ1 vs H1 e1 R1 p1 q => by
    obtain ⟨d, r, v, s, rfl, rfl, ⟨hd, ht⟩, rfl, rfl⟩ := p1
    cases d with
    | str z =>
      refine ⟨z, by rw [show v = V.str z from hd], q _ H1 .refl R1 ?_⟩
      refine it_pair (walk_pairs (n := z.cps.size) (f := sgn z)) (enumL_len.trans (by simp [signs])) (fun _ _ => trivial) fun i hi => ?_
      refine ⟨.int (0 + i : Nat), .str ⟨#[z.cps[i]]⟩, enumL_at ?_, rfl, rfl, fun H' W' vx vy e hw h1 h2 => ⟨?_, ?_⟩⟩
      · unfold signs
        rw [List.getElem?_map, Array.getElem?_toList, Array.getElem?_eq_getElem hi]
        rfl
      · cases h1
        show V.int _ = V.int _
        rw [Nat.zero_add]
      · cases h2
        show V.str ⟨#[z.cps.getD i 0]⟩ = V.str ⟨#[z.cps[i]]⟩
        rw [Array.getD_eq_getD_getElem?, Array.getElem?_eq_getElem hi]
        rfl
    | lst ds => exact absurd ht (by intro h; cases h)
    | _ => exact q.elim⟩
/-! zip -/
def rZip (ds : List D) (ρ : List D) : R (List D) := match ds with
  | [.lst xs, .lst ys] => .ok ((xs.zip ys).map fun p => .tup [p.1, p.2]) ρ
  | _ => .bad
def eZip (ψ : EM (List D)) : EM (List D) := fun ρ => (ψ ρ).bind rZip
theorem si_zip (hK : Z.K = X.K) (hg : Gl X "zip") (hm : X.mg "zip" = none) (ha : SA X Z Γ [a, b] ψ [.v (.L ta), .v (.L tb)])
    (hs : starEach [a, b] X.env = (false, eval a X.env) :: starEach [b] X.env := by rfl) (hpl : (backTo pos (starEach [b] X.env)).any (·.1) = false := by rfl) : SI X Z Γ (.Tuple elts kk tpos) (.Call (.Name "zip" p) [a, b] [] pos) (eZip ψ) (.T [ta, tb]) := PI.imp (pi_zip hg hm ha hs hpl) fun σ H Rr ⟨ρ, U, R, q⟩ =>
  ⟨ρ, U, R, AftI.bind q fun ds ρ1 vs H1 e1 R1 p1 q => by
    obtain ⟨d, r, v, s, rfl, rfl, ⟨hd, ds, rfl, ht⟩, d2, r2, v2, s2, rfl, rfl, ⟨hd2, ds2, rfl, ht2⟩, rfl, rfl⟩ := p1
    obtain ⟨a, xs, rfl, sa, fa⟩ := hd
    obtain ⟨b, ys, rfl, sb, fb⟩ := hd2
    refine ⟨a, b, xs, ys, rfl, hK ▸ sa.sq, hK ▸ sb.sq, q _ H1 .refl R1 ?_⟩
    refine hK ▸ it_pair (walk_zip (K := Z.K) (a := a) (b := b) rfl) (by rw [List.length_map, List.length_zip, fa.length, fb.length]) (fun H' e => ⟨(sa.ext (fun x z => .inl z) e).sq, (sb.ext (fun x z => .inl z) e).sq⟩) fun i hi => ?_
    have hi1 : i < ds.length := by rw [fa.length]; omega
    have hi2 : i < ds2.length := by rw [fb.length]; omega
    refine ⟨ds[i], ds2[i], ?_, ht _ (List.getElem_mem hi1), ht2 _ (List.getElem_mem hi2), fun H' W' vx vy e hw h1 h2 => ⟨?_, ?_⟩⟩
    · rw [List.getElem?_map, List.getElem?_zip_eq_some (z := (ds[i], ds2[i])) |>.mpr ⟨List.getElem?_eq_getElem hi1, List.getElem?_eq_getElem hi2⟩]
      rfl
    · obtain ⟨v, hv, fv⟩ := fa.get (List.getElem?_eq_getElem hi1)
      rw [hv] at h1
      cases h1
      exact fv.ext2 (fun x z => .inl z) e hw
    · obtain ⟨v, hv, fv⟩ := fb.get (List.getElem?_eq_getElem hi2)
      rw [hv] at h2
      cases h2
      exact fv.ext2 (fun x z => .inl z) e hw⟩
end
end VL
/-! VL16: texts and tuples walked alike; reversed; methods of texts. -/
namespace L2
open PySem PySem.Spec PyProof.Rows
/-- a text's signs or a tuple's parts -/
def iEither (K : PySem.W.Frag) (te : TE) : TI := fun σ H R => te σ H fun v H1 => (∃ z, v = .str z ∧ R (Its z) H1) ∨ ∃ a, v = .ref a ∧ (∃ xs, SqT K H1 a xs) ∧ R (Itt K a) H1
theorem pi_either {X : Cx} {tg e : Expr} {te : TE} (he : PE X e te) : PI X tg e (iEither X.K te) := .mk fun pins s σ H R I h => thn (he.run pins s σ H _ I h) fun w s1 got => by
  obtain ⟨v, H1, I1, rv, ⟨z, rfl, q⟩ | ⟨a, rfl, ⟨xs, sq⟩, q⟩⟩ := got
  · obtain ⟨t, rfl⟩ := rv
    cases plain : z.cps.all (· < 128) with
    | true => exact wpAny_pyIter_ascii plain (pi_one I1 _ (turn_str _ z t _ (.inl rfl)) ⟨_, Heap.get?_push_size _ rfl, rfl, rfl⟩ q)
    | false => exact wpAny_pyIter_wide plain (pi_one I1 _ (turn_str _ z t _ (.inr rfl)) ⟨_, Heap.get?_push_size _ rfl, rfl, rfl⟩ q)
  · cases rv
    obtain ⟨us, _, isT, _⟩ := I1.tuple sq
    exact wpAny_pyIter_tuple (show s1.heap.IsTuple a us.toArray from isT) (pi_one I1 _ (turn_tuple a _) ⟨_, Heap.get?_push_size _ rfl, rfl, rfl⟩ q)
end L2
namespace VL
open PySem L2 RT
section
variable {K : PySem.W.Frag} {a : Addr} {xs : List V}
theorem walk_revT : Walk (ItvT K a xs.length) xs.length (fun H => SqT K H a xs) (fun i H x H' => H' = H ∧ xs[xs.length - 1 - i]? = some x) :=
  ⟨fun i _ hi q => ⟨hi, xs, _, q, List.getElem?_eq_getElem (show xs.length - 1 - i < xs.length by omega)⟩, fun _ _ => Nat.le_refl xs.length, fun _ _ _ _ _ q y => y.imp id fun g => g xs q⟩
end
section
variable {X : Cx} {Z : Zx} {Γ Γ' : Gx} {e o a b tg : Expr} {φ φa φb : EM D} {ψ : EM (List D)} {t u ta tb : Ty} {pos apos p tpos : Pos} {elts : List Expr} {kk : Nat} {ks : List AK}
def dRev (d : D) (ρ : List D) : R (List D) := match d with
  | .lst ds => .ok ds.reverse ρ
  | .tup ds => .ok ds.reverse ρ
  | _ => .bad
def eItR (φ : EM D) : EM (List D) := fun ρ => (φ ρ).bind dRev
theorem it_rev {J : It} {G : Hp → Prop} {ds : List D} {xs : List V} {W W0 : AS} {H : Hp} (w : Walk J xs.length G (fun i H x H' => H' = H ∧ xs[xs.length - 1 - i]? = some x)) (fa : FzL Z.K H W ds xs) (hw0 : ∀ x, W0 x → W x) (hG : ∀ H', Ext H W0 H' → G H') (hu : ∀ d ∈ ds, u.has d) : ItOk Z W W0 J ds.reverse u H := by
  refine ⟨G, fun i H x H' => i < xs.length ∧ H' = H ∧ xs[xs.length - 1 - i]? = some x, by rw [List.length_reverse, fa.length]; exact w.mono (fun _ h => h) fun i H x H' hi _ y => ⟨hi, y⟩, hG, fun d hd => hu d (List.mem_reverse.mp hd), fun i H1 x H2 W' e hw y => ?_⟩
  obtain ⟨hi, e2, hx⟩ := y
  subst e2
  obtain ⟨d, hd, fd⟩ := fa.getV hx
  refine ⟨.refl, d, ?_, fd.ext2 hw0 e hw⟩
  rw [List.getElem?_reverse (by rw [fa.length]; exact hi), fa.length]
  exact hd
theorem si_rev (hK : Z.K = X.K) (hg : Gl X "reversed") (hm : X.mg "reversed" = none) (he : SE X Z Γ e φ t) (hs : starEach [e] X.env = (false, eval e X.env) :: starEach [] X.env := by rfl) (ht : (match t with | .im => true | .L _ => true | _ => false) = true := by rfl) :
    SI X Z Γ tg (.Call (.Name "reversed" p) [e] [] pos) (eItR φ) (elems t) := PI.imp (pi_revA hg hm he hs) fun σ H Rr ⟨ρ, U, R, q⟩ =>
  ⟨ρ, U, R, AftI.bind q fun d ρ1 v H1 e1 R1 p1 q => by
    cases d with
    | lst ds =>
      obtain ⟨a, xs, rfl, ha, fa⟩ := p1.1
      exact ⟨a, xs, rfl, .inl ⟨hK ▸ ha.sq, q _ H1 .refl R1 (hK ▸ it_rev walk_rev fa (fun x z => .inl z) (fun H' e => (ha.ext (fun x z => .inl z) e).sq) (elems_has p1.2 (.inl rfl)))⟩⟩
    | tup ds =>
      obtain ⟨a, xs, rfl, ha, fa⟩ := p1.1
      have hk : t = .im := by
        cases t with
        | im => rfl
        | L t =>
          obtain ⟨_, h, _⟩ := p1.2
          cases h
        | _ => cases ht
      exact ⟨a, xs, rfl, .inr ⟨hK ▸ ha.sq, q _ H1 .refl R1 (hK ▸ it_rev walk_revT fa (fun x z => .inl z) (fun H' e => (ha.ext e).sq) (elems_has p1.2 (.inr ⟨rfl, hk⟩)))⟩⟩
    | _ => exact q.elim⟩

/-- the signs of a text, the parts of a tuple -/
def dEither (d : D) (ρ : List D) : R (List D) := match d with
  | .str z => .ok (signs z) ρ
  | .tup ds => .ok ds ρ
  | _ => .bad
def eItE (φ : EM D) : EM (List D) := fun ρ => (φ ρ).bind dEither
theorem it_signs {W W0 : AS} {H : Hp} {z : Str} : ItOk Z W W0 (Its z) (signs z) .im H := by
  refine ⟨_, _, by rw [show (signs z).length = z.cps.size by simp [signs]]; exact walk_str (z := z), fun _ _ => trivial, fun d hd => ?_, fun i H2 x H3 W' e2 hw y => ?_⟩
  · obtain ⟨c, _, rfl⟩ := List.mem_map.mp hd
    rfl
  · obtain ⟨e3, c, hc, rfl⟩ := y
    subst e3
    refine ⟨.refl, .str ⟨#[c]⟩, ?_, rfl⟩
    unfold signs
    rw [List.getElem?_map, Array.getElem?_toList, hc]
    rfl
theorem si_im (hK : Z.K = X.K) (h : SE X Z Γ e φ .im) : SI X Z Γ tg e (eItE φ) .im := PI.imp (pi_either h) fun σ H Rr ⟨ρ, U, R, q⟩ =>
  ⟨ρ, U, R, AftI.bind q fun d ρ1 v H1 e1 R1 p1 q => by
    cases d with
    | str z => exact .inl ⟨z, p1.1, q _ H1 .refl R1 it_signs⟩
    | tup ds =>
      obtain ⟨a, xs, rfl, ha, fl⟩ := p1.1
      exact .inr ⟨a, rfl, ⟨xs, hK ▸ ha.sq⟩, q _ H1 .refl R1 (hK ▸ it_tup ha fl (elems_has (t := .im) p1.2 (.inr ⟨rfl, rfl⟩)))⟩
    | lst ds => exact absurd p1.2 (by intro h; cases h)
    | _ => exact q.elim⟩

/-! ### methods of texts -/
def withS (d : D) (f : Str → R D) : R D := match d with
  | .str z => f z
  | _ => .bad
def eM0 (f : Str → Option D) (φ : EM D) : EM D := fun ρ => (φ ρ).bind fun x ρ => withS x fun z => liftO (f z) ρ
def eM1 (f : Str → D → Option D) (φa : EM D) (kb : Od) (φb : EM D) : EM D := fun ρ => (φa ρ).bind fun x ρ => withS x fun z => (φb ρ).bind fun y ρ => liftO (f z (kb.res y ρ)) ρ
def M0S (K : PySem.W.Frag) (r : V → List V → Hp → VK → Prop) (f : Str → Option D) (t : Ty) : Prop := ∀ (H : Hp) (W : AS) (z : Str) (d : D), f z = some d → t.has d ∧ ∀ Q : VK, (∀ v H', Ext H (fun _ => False) H' → Fz K H' W d v → Q v H') → r (.str z) [] H Q
def M1S (K : PySem.W.Frag) (r : V → List V → Hp → VK → Prop) (f : Str → D → Option D) (tb t : Ty) : Prop := ∀ (H : Hp) (W : AS) (z : Str) (y : V) (db d : D), Vw K H W db y → tb.has db → f z db = some d → t.has d ∧ ∀ Q : VK, (∀ v H', Ext H (fun _ => False) H' → Fz K H' W d v → Q v H') → r (.str z) [y] H Q
theorem m0_core {f : Str → Option D} {r : V → List V → Hp → VK → Prop} (hr : M0S Z.K r f t) {σ : L2.St} {H : Hp} {Q : VK} (h : Tof Z Γ (eM0 f φa) (Pf Z.K t) σ H Q) : tM0 r (Tof Z Γ φa (Pf Z.K ta)) σ H Q := by
  obtain ⟨ρ, U, R, q⟩ := h
  refine ⟨ρ, U, R, Aft.bind q fun x ρ1 v H1 e1 R1 p1 q => ?_⟩
  cases x with
  | str z =>
    have ev : v = .str z := p1.1
    subst ev
    have q : Aft Z Γ (Pf Z.K t) σ H1 U Q (liftO (f z) ρ1) := q
    cases hf : f z with
    | none =>
      rw [hf] at q
      exact q.elim
    | some d =>
      rw [hf] at q
      obtain ⟨td, hq⟩ := hr H1 (Wa Γ σ U) z d hf
      exact ⟨⟨z, rfl⟩, hq Q fun v H3 e3 z => q v H3 (ext_mono e3) (R1.same e3) ⟨z, td⟩⟩
  | _ => exact q.elim
theorem m1_core {f : Str → D → Option D} {kb : Od} {r : V → List V → Hp → VK → Prop} (hkb : kb.ok Γ tb) (hr : M1S Z.K r f tb t) {σ : L2.St} {H : Hp} {Q : VK} (h : Tof Z Γ (eM1 f φa kb φb) (Pf Z.K t) σ H Q) : tM1 r (Tof Z Γ φa (Pf Z.K ta)) (Tof Z Γ φb (kb.P Z.K)) σ H Q := by
  obtain ⟨ρ, U, R, q⟩ := h
  refine ⟨ρ, U, R, Aft.bind q fun x ρ1 v H1 e1 R1 p1 q => ?_⟩
  cases x with
  | str z =>
    have ev : v = .str z := p1.1
    subst ev
    refine ⟨⟨z, rfl⟩, ρ1, U, R1, Aft.bind (show Aft Z Γ (Pf Z.K t) σ H1 U Q ((φb ρ1).bind fun y ρ => liftO (f z (kb.res y ρ)) ρ) from q) fun y ρ2 w H2 e2 R2 p2 q => ?_⟩
    obtain ⟨vy, ty⟩ := Od.vw hkb R2 p2
    cases hf : f z (kb.res y ρ2) with
    | none =>
      rw [hf] at q
      exact q.elim
    | some d =>
      rw [hf] at q
      obtain ⟨td, hq⟩ := hr H2 _ z w _ d vy ty hf
      exact hq Q fun v H3 e3 z => q v H3 (ext_mono e3) (R2.same e3) ⟨z, td⟩
  | _ => exact q.elim
def dTexts : List D → Option (List Str)
  | [] => some []
  | .str z :: ds => (dTexts ds).map (z :: ·)
  | _ :: _ => none
theorem texts_map : ∀ {ds : List D} {ys : List Str}, dTexts ds = some ys → ds = ys.map D.str
  | [], ys, h => by cases h; rfl
  | .str z :: ds, ys, h => by
    unfold dTexts at h
    cases e : dTexts ds with
    | none => rw [e] at h; cases h
    | some zs =>
      rw [e] at h
      cases h
      rw [texts_map e]
      rfl
  | .non :: _, _, h => by cases h
  | .bl _ :: _, _, h => by cases h
  | .int _ :: _, _, h => by cases h
  | .tup _ :: _, _, h => by cases h
  | .lst _ :: _, _, h => by cases h
  | .dic _ :: _, _, h => by cases h
theorem fz_texts {K : PySem.W.Frag} {H : Hp} {W : AS} : ∀ {ys : List Str} {vs : List V}, FzL K H W (ys.map D.str) vs → vs = ys.map V.str
  | [], _, h => h
  | y :: ys, _, ⟨v, r, h1, h2, h3⟩ => by rw [h1, show v = V.str y from h2, fz_texts h3]; rfl
def jn (z : Str) (ds : List D) : Option D := (dTexts ds).bind fun ys => if (ys.map (·.length)).sum + ys.length * z.length ≤ 16777216 then some (.str (Txt.join z ys)) else none
def dJoin (z : Str) (y : D) : Option D := match y with
  | .lst ds => jn z ds
  | .tup ds => jn z ds
  | _ => none
theorem join_s {K : PySem.W.Frag} : M1S K (fun x xs H Q => ∃ a p, ∃ ys : List Str, x = .str a ∧ xs = [.ref p] ∧ (SqL K H p (ys.map V.str) ∨ SqT K H p (ys.map V.str)) ∧
      (ys.map (·.length)).sum + ys.length * a.length ≤ 16777216 ∧ Q (.str (Txt.join a ys)) H) dJoin tb .im := fun H W z y db d hy htb hf => by
  have go : ∀ ds, jn z ds = some d → ∃ ys, ds = ys.map D.str ∧ (ys.map (·.length)).sum + ys.length * z.length ≤ 16777216 ∧ d = .str (Txt.join z ys) := fun ds h => by
    unfold jn at h
    cases e : dTexts ds with
    | none => rw [e] at h; cases h
    | some ys =>
      rw [e] at h
      have h : (if (ys.map (·.length)).sum + ys.length * z.length ≤ 16777216 then some (D.str (Txt.join z ys)) else none) = some d := h
      split at h
      · cases h
        rename_i hl
        exact ⟨ys, texts_map e, hl, rfl⟩
      · cases h
  cases db with
  | lst ds =>
    obtain ⟨ys, rfl, hl, rfl⟩ := go ds hf
    obtain ⟨a, xs, rfl, sa, fa⟩ := hy.lst
    rw [fz_texts fa] at sa
    exact ⟨rfl, fun Q q => ⟨z, a, ys, rfl, rfl, .inl sa, hl, q _ H .refl rfl⟩⟩
  | tup ds =>
    obtain ⟨ys, rfl, hl, rfl⟩ := go ds hf
    obtain ⟨a, xs, rfl, sa, fa⟩ := hy.tup
    rw [fz_texts fa] at sa
    exact ⟨rfl, fun Q q => ⟨z, a, ys, rfl, rfl, .inr sa.sq, hl, q _ H .refl rfl⟩⟩
  | _ => cases hf
theorem se_join {kb : Od} (hK : Z.K = X.K) (ho : SE X Z Γ o φa ta) (he : SO X Z Γ e φb kb) (hkb : kb.ok Γ tb := by rfl) (hs : starEach [e] X.env = [(false, eval e X.env)] := by rfl) (hbase : attributeBase o "join" X.env (eval o X.env) = eval o X.env := by rfl) (hline : (apos.endLine == pos.line) = true := by rfl) :
    SE X Z Γ (.Call (.Attribute o "join" apos) [e] [] pos) (eM1 dJoin φa kb φb) .im := PE.imp (pe_join ho he hs hbase hline) fun σ H Q h => m1_core (r := fun x xs H Q => ∃ a p, ∃ ys : List Str, x = .str a ∧ xs = [.ref p] ∧ (SqL X.K H p (ys.map V.str) ∨ SqT X.K H p (ys.map V.str)) ∧
      (ys.map (·.length)).sum + ys.length * a.length ≤ 16777216 ∧ Q (.str (Txt.join a ys)) H) hkb (hK ▸ join_s) h
end
end VL
/-! VL17: written constants. -/
namespace VL
open PySem L2
theorem fz_cst {K : PySem.W.Frag} {H : Hp} {W : AS} {a : Addr} {o : Obj} {its : Array Value} {n : Nat} {xs : List V} {ds : List D} (hl : K.lookup a = some o) (hc : o.cls = .type "tuple") (hd : o.data = .seq its n) (hs : decide (its.size ≤ 1000) = true) (hv : Vals xs its.toList) (hf : FzL K H W ds xs) : Fz K H W (.tup ds) (.ref a) :=
  ⟨a, xs, rfl, .inr ⟨o, its, n, hl, hc, hd, small_line (of_decide_eq_true hs), hv⟩, hf⟩
theorem cst_tup {K : PySem.W.Frag} {mg : Str → Option Value} {x : Str} {a : Addr} {o : Obj} {its : Array Value} {n : Nat} {xs : List V} {ds : List D} (hm : mg x = some (.ref a)) (hl : K.lookup a = some o) (hc : o.cls = .type "tuple") (hd : o.data = .seq its n) (hs : decide (its.size ≤ 1000) = true) (hv : Vals xs its.toList) (hf : ∀ H W, FzL K H W ds xs) :
    ∃ (v : V) (u : Value), mg x = some u ∧ RelV v u ∧ ∀ H W, Fz K H W (.tup ds) v := ⟨.ref a, .ref a, hm, rfl, fun H W => fz_cst hl hc hd hs hv (hf H W)⟩
end VL
/-! VL18: what the mirror answers, by what is asked of the answer. -/
namespace VL
open PySem L2
def R.satP {α : Type} (x : R α) (P : α → List D → Prop) : Prop := match x with
  | .ok a ρ => P a ρ
  | _ => False
/-- it is answered, and P holds of the answer -/
structure R.sat {α : Type} (x : R α) (P : α → List D → Prop) : Prop where
  out : R.satP x P
section
variable {α β : Type}
theorem sat_iff {x : R α} {P : α → List D → Prop} : x.sat P ↔ R.satP x P := ⟨fun h => h.out, fun h => ⟨h⟩⟩
@[simp] theorem sat_ok (a : α) (ρ : List D) (P : α → List D → Prop) : (R.ok a ρ).sat P ↔ P a ρ := sat_iff
@[simp] theorem sat_bad (P : α → List D → Prop) : (R.bad : R α).sat P ↔ False := sat_iff
@[simp] theorem sat_exc (c : Str) (p : D) (ρ : List D) (P : α → List D → Prop) : (R.exc c p ρ : R α).sat P ↔ False := sat_iff
@[simp] theorem sat_bind (x : R α) (f : α → List D → R β) (P : β → List D → Prop) : (x.bind f).sat P ↔ x.sat fun a ρ => (f a ρ).sat P := by
  cases x with
  | ok a ρ => rw [sat_ok]; exact Iff.rfl
  | exc c p ρ => rw [sat_exc]; exact sat_exc c p ρ P
  | bad => rw [sat_bad]; exact sat_bad P
@[simp] theorem sat_lift (o : Option α) (ρ : List D) (P : α → List D → Prop) : (liftO o ρ).sat P ↔ ∃ a, o = some a ∧ P a ρ := by
  cases o with
  | none => exact ⟨fun h => h.out.elim, fun ⟨a, h, _⟩ => nomatch h⟩
  | some a => exact ⟨fun h => ⟨a, rfl, h.out⟩, fun ⟨b, h, q⟩ => by cases h; exact ⟨q⟩⟩
@[simp] theorem sat_ite (c : Prop) [Decidable c] (a b : R α) (P : α → List D → Prop) : (if c then a else b).sat P ↔ if c then a.sat P else b.sat P := by split <;> exact Iff.rfl
@[simp] theorem sat_back (ks : List AK) (ρ : List D) (x : R D) (P : D → List D → Prop) : (backR ks ρ x).sat P ↔ x.sat fun d outs => P d (AK.back ks outs ρ) := by
  cases x with
  | ok a ρ => rw [backR_ok, sat_ok, sat_ok]
  | exc c p ρ => rw [sat_exc]; exact sat_exc c p _ P
  | bad => rw [sat_bad]; exact sat_bad P
theorem R.sat.mono {x : R α} {P Q : α → List D → Prop} (h : x.sat P) (w : ∀ a ρ, P a ρ → Q a ρ) : x.sat Q := by
  cases x with
  | ok a ρ => exact ⟨w a ρ h.out⟩
  | exc c p ρ => exact h.out.elim
  | bad => exact h.out.elim
theorem R.sat.ex {x : R α} {P : α → List D → Prop} (h : x.sat P) : ∃ a ρ, x = .ok a ρ ∧ P a ρ := by
  cases x with
  | ok a ρ => exact ⟨a, ρ, rfl, h.out⟩
  | exc c p ρ => exact h.out.elim
  | bad => exact h.out.elim
theorem R.sat.of {x : R α} {P : α → List D → Prop} {a : α} {ρ : List D} (e : x = .ok a ρ) (h : P a ρ) : x.sat P := by rw [e]; exact ⟨h⟩
/-- a def -/
def rets (fall : Bool) (k : Nat) (P : D → List D → Prop) : Fl → List D → Prop
  | .rt d, ρ => P d (ρ.take k)
  | .nx, ρ => fall = true ∧ P .non (ρ.take k)
  | _, _ => False
@[simp] theorem rets_rt (fall : Bool) (k : Nat) (P : D → List D → Prop) (d : D) (ρ : List D) : rets fall k P (.rt d) ρ ↔ P d (ρ.take k) := Iff.rfl
@[simp] theorem rets_nx (fall : Bool) (k : Nat) (P : D → List D → Prop) (ρ : List D) : rets fall k P .nx ρ ↔ fall = true ∧ P .non (ρ.take k) := Iff.rfl
theorem mkF_sat {fall : Bool} {n k : Nat} {β : SM} {ds : List D} {P : D → List D → Prop} (h : (β (ds ++ List.replicate (n - k) .non)).sat (rets fall k P)) : (mkF fall n k β ds).sat P := by
  rw [mkF_r]
  revert h
  cases β (ds ++ List.replicate (n - k) .non) with
  | bad => exact fun h => h.out.elim
  | exc c p ρ => exact fun h => h.out.elim
  | ok f ρ =>
    cases f with
    | rt d => exact fun h => ⟨h.out⟩
    | bk => exact fun h => h.out.elim
    | ct => exact fun h => h.out.elim
    | nx =>
      intro h
      obtain ⟨h1, h2⟩ := h.out
      subst h1
      exact ⟨h2⟩
/-! loops -/
/-- what a turn may come to -/
def turn (J P : List D → Prop) (Q : Fl → List D → Prop) : Fl → List D → Prop
  | .nx, ρ => J ρ
  | .ct, ρ => J ρ
  | .bk, ρ => P ρ
  | .rt d, ρ => Q (.rt d) ρ
@[simp] theorem turn_nx (J P : List D → Prop) (Q : Fl → List D → Prop) (ρ : List D) : turn J P Q .nx ρ ↔ J ρ := Iff.rfl
@[simp] theorem turn_ct (J P : List D → Prop) (Q : Fl → List D → Prop) (ρ : List D) : turn J P Q .ct ρ ↔ J ρ := Iff.rfl
@[simp] theorem turn_bk (J P : List D → Prop) (Q : Fl → List D → Prop) (ρ : List D) : turn J P Q .bk ρ ↔ P ρ := Iff.rfl
@[simp] theorem turn_rt (J P : List D → Prop) (Q : Fl → List D → Prop) (d : D) (ρ : List D) : turn J P Q (.rt d) ρ ↔ Q (.rt d) ρ := Iff.rfl
theorem forL_sat {tp : TP} {β : SM} {Q : Fl → List D → Prop} : ∀ (ds : List D) (ρ : List D) (I : Nat → List D → Prop), I 0 ρ →
    (∀ i d ρ, ds[i]? = some d → I i ρ → ∃ ρ1, tp.bind d ρ = some ρ1 ∧ (β ρ1).sat (turn (I (i + 1)) (Q .nx) Q)) → (∀ ρ, I ds.length ρ → Q .nx ρ) → (sForL tp β ds ρ).sat Q
  | [], ρ, I, h0, _, hd => ⟨hd ρ h0⟩
  | d :: ds, ρ, I, h0, hs, hd => by
    obtain ⟨ρ1, hb, h⟩ := hs 0 d ρ rfl h0
    unfold sForL
    rw [hb]
    show R.sat ((β ρ1).bind _) Q
    rw [sat_bind]
    refine h.mono fun f ρ2 hf => ?_
    cases f with
    | nx => exact forL_sat ds ρ2 (fun i => I (i + 1)) hf (fun i d ρ e => hs (i + 1) d ρ (by simpa using e)) hd
    | ct => exact forL_sat ds ρ2 (fun i => I (i + 1)) hf (fun i d ρ e => hs (i + 1) d ρ (by simpa using e)) hd
    | bk => exact ⟨hf⟩
    | rt d => exact ⟨hf⟩
theorem forUp_sat {i : Nat} {β : SM} {Q : Fl → List D → Prop} {lo : Int} {n : Nat} {ρ : List D} (I : Nat → List D → Prop) (h0 : I 0 ρ) (hs : ∀ k ρ, k < n → I k ρ → (β (ρ.set i (.int (lo + k)))).sat (turn (I (k + 1)) (Q .nx) Q)) (hd : ∀ ρ, I n ρ → Q .nx ρ) :
    (sForL (.nm i) β (up lo n) ρ).sat Q := by
  have hl : (up lo n).length = n := by simp [up]
  refine forL_sat _ _ I h0 (fun k d ρ e hk => ?_) (fun ρ h => hd ρ (by rw [hl] at h; exact h))
  have lt : k < n := by rw [← hl]; exact (List.getElem?_eq_some_iff.mp e).1
  rw [up_at lt] at e
  cases e
  exact ⟨_, rfl, hs k ρ lt hk⟩
theorem while_sat {ψ : EM Bool} {β : SM} {Q : Fl → List D → Prop} (I : Nat → List D → Prop) (hs : ∀ m ρ, I m ρ → (ψ ρ).sat fun b ρ1 => if b = true then (β ρ1).sat (turn (fun ρ2 => ∃ k, k < m ∧ I k ρ2) (Q .nx) Q) else Q .nx ρ1) :
    ∀ (n m : Nat) (ρ : List D), m < n → I m ρ → (sWhile ψ β n ρ).sat Q
  | 0, _, _, h, _ => absurd h (Nat.not_lt_zero _)
  | n + 1, m, ρ, h, hi => by
    have q := hs m ρ hi
    unfold sWhile
    rw [sat_bind]
    refine q.mono fun b ρ1 hb => ?_
    cases b with
    | false => exact ⟨hb⟩
    | true =>
      rw [if_pos rfl] at hb ⊢
      rw [sat_bind]
      refine hb.mono fun f ρ2 hf => ?_
      cases f with
      | nx =>
        obtain ⟨k, hk, hi⟩ := hf
        exact while_sat I hs n k ρ2 (by omega) hi
      | ct =>
        obtain ⟨k, hk, hi⟩ := hf
        exact while_sat I hs n k ρ2 (by omega) hi
      | bk => exact ⟨hf⟩
      | rt d => exact ⟨hf⟩
theorem lc_sat {tp : TP} {ψ : EM Bool} {φ : EM D} {Q : List D → List D → Prop} : ∀ (ds acc ρ : List D) (I : Nat → List D → List D → Prop), I 0 acc ρ →
    (∀ i d acc ρ, ds[i]? = some d → I i acc ρ → ∃ ρ1, tp.bind d ρ = some ρ1 ∧ (ψ ρ1).sat fun b ρ2 => if b = true then (φ ρ2).sat fun y ρ3 => acc.length < sizeLine ∧ I (i + 1) (acc ++ [y]) ρ3 else I (i + 1) acc ρ2) →
    (∀ acc ρ, I ds.length acc ρ → Q acc ρ) → (lcL tp ψ φ ds acc ρ).sat Q
  | [], acc, ρ, I, h0, _, hd => ⟨hd acc ρ h0⟩
  | d :: ds, acc, ρ, I, h0, hs, hd => by
    obtain ⟨ρ1, hb, h⟩ := hs 0 d acc ρ rfl h0
    unfold lcL
    rw [hb]
    show R.sat ((ψ ρ1).bind _) Q
    rw [sat_bind]
    refine h.mono fun b ρ2 hf => ?_
    have next : ∀ acc ρ, I 1 acc ρ → (lcL tp ψ φ ds acc ρ).sat Q := fun acc ρ h => lc_sat ds acc ρ (fun i => I (i + 1)) h (fun i d acc ρ e => hs (i + 1) d acc ρ (by simpa using e)) hd
    cases b with
    | false => exact next acc ρ2 hf
    | true =>
      rw [if_pos rfl] at hf ⊢
      rw [sat_bind]
      refine hf.mono fun y ρ3 hy => ?_
      rw [if_pos hy.1]
      exact next _ _ hy.2
@[simp] theorem sat_nox (x : R α) (P : α → List D → Prop) : x.nox.sat P ↔ x.sat P := by
  cases x with
  | ok a ρ => exact Iff.rfl
  | exc c p ρ => exact (sat_bad P).trans (sat_exc c p ρ P).symm
  | bad => exact Iff.rfl
end
/-! how more of the mirror is reckoned -/
@[simp] theorem eChn_b (f g : D → D → Option D) (ka kb kc : Od) (φa φb φc : EM D) (ρ : List D) : eChn f g ka φa kb φb kc φc ρ = (φa ρ).bind fun x ρ => (φb ρ).bind fun y ρ => (liftO (f (ka.res x ρ) (kb.res y ρ)) ρ).bind fun d ρ => (asB d ρ).bind fun b ρ =>
    if b = true then (φc ρ).bind fun z ρ => liftO (g (kb.res y ρ) (kc.res z ρ)) ρ else .ok (.bl false) ρ := by
  rw [eChn_r]
  congr 1
  funext x ρ
  congr 1
  funext y ρ
  cases f (ka.res x ρ) (kb.res y ρ) with
  | none => rfl
  | some d =>
    cases d with
    | bl b => cases b <;> rfl
    | _ => rfl
@[simp] theorem eAndV_b (φ ψ : EM D) (ρ : List D) : eAndV φ ψ ρ = (φ ρ).bind fun d ρ => (asB d ρ).bind fun b ρ => if b = true then ψ ρ else .ok (.bl false) ρ := by
  unfold eAndV
  congr 1
  funext d ρ
  cases d with
  | bl b => cases b <;> rfl
  | _ => rfl
@[simp] theorem eOrV_b (φ ψ : EM D) (ρ : List D) : eOrV φ ψ ρ = (φ ρ).bind fun d ρ => (asB d ρ).bind fun b ρ => if b = true then .ok (.bl true) ρ else ψ ρ := by
  unfold eOrV
  congr 1
  funext d ρ
  cases d with
  | bl b => cases b <;> rfl
  | _ => rfl
@[simp] theorem eNotV_b (φ : EM D) (ρ : List D) : eNotV φ ρ = (φ ρ).bind fun d ρ => (asB d ρ).bind fun b ρ => .ok (.bl (!b)) ρ := by
  unfold eNotV
  congr 1
  funext d ρ
  cases d <;> rfl
@[simp] theorem back_nil (ks : List AK) (ρ : List D) : AK.back ks [] ρ = ρ := by
  cases ks with
  | nil => rfl
  | cons k ks => cases k <;> rfl
@[simp] theorem back_v' (t : Ty) (ks : List AK) (ds ρ : List D) : AK.back (.v t :: ks) ds ρ = AK.back ks ds.tail ρ := by
  cases ds with
  | nil => rw [back_nil]; exact (back_nil ks ρ).symm
  | cons d ds => rfl
@[simp] theorem back_b' (i : Nat) (ks : List AK) (ds ρ : List D) : AK.back (.b i :: ks) ds ρ = AK.back ks ds.tail ρ := by
  cases ds with
  | nil => rw [back_nil]; exact (back_nil ks ρ).symm
  | cons d ds => rfl
@[simp] theorem sFor_r (χ : EM (List D)) (tp : TP) (β : SM) (ρ : List D) : sFor χ tp β ρ = (χ ρ).bind (sForL tp β) := (rfl)
@[simp] theorem eLc_r (χ : EM (List D)) (tp : TP) (ψ : EM Bool) (φ : EM D) (ρ : List D) : eLc χ tp ψ φ ρ = (χ ρ).bind fun ds ρ => (lcL tp ψ φ ds [] ρ).nox.bind fun acc ρ => .ok (.lst acc) ρ := (rfl)
@[simp] theorem eYes_r (ρ : List D) : eYes ρ = .ok true ρ := (rfl)
@[simp] theorem eRg_r (f : List D → Option (List D)) (ψ : EM (List D)) (ρ : List D) : eRg f ψ ρ = (ψ ρ).bind fun ds ρ => liftO (f ds) ρ := (rfl)
theorem rg1_r {j : Int} (h : -(2 ^ 62) ≤ j ∧ j < 2 ^ 62) : rg1 [.int j] = some (up 0 j.toNat) := if_pos h
theorem rg2_r {i j : Int} (h : -(2 ^ 62) ≤ i ∧ i < 2 ^ 62 ∧ -(2 ^ 62) ≤ j ∧ j < 2 ^ 62) : rg2 [.int i, .int j] = some (up i (j - i).toNat) := if_pos h
@[simp] theorem eItE_r (φ : EM D) (ρ : List D) : eItE φ ρ = (φ ρ).bind dEither := (rfl)
@[simp] theorem eItL_r (φ : EM D) (ρ : List D) : eItL φ ρ = (φ ρ).bind dLst := (rfl)
@[simp] theorem eItR_r (φ : EM D) (ρ : List D) : eItR φ ρ = (φ ρ).bind dRev := (rfl)
@[simp] theorem eEnum_r (ψ : EM (List D)) (ρ : List D) : eEnum ψ ρ = (ψ ρ).bind rEnum := (rfl)
@[simp] theorem eZip_r (ψ : EM (List D)) (ρ : List D) : eZip ψ ρ = (ψ ρ).bind rZip := (rfl)
@[simp] theorem dEither_s (z : Str) (ρ : List D) : dEither (.str z) ρ = .ok (signs z) ρ := (rfl)
@[simp] theorem dEither_t (ds ρ : List D) : dEither (.tup ds) ρ = .ok ds ρ := (rfl)
@[simp] theorem dLst_l (ds ρ : List D) : dLst (.lst ds) ρ = .ok ds ρ := (rfl)
@[simp] theorem dRev_l (ds ρ : List D) : dRev (.lst ds) ρ = .ok ds.reverse ρ := (rfl)
@[simp] theorem dRev_t (ds ρ : List D) : dRev (.tup ds) ρ = .ok ds.reverse ρ := (rfl)
@[simp] theorem rEnum_l (ds ρ : List D) : rEnum [.lst ds] ρ = .ok (enumL 0 ds) ρ := (rfl)
@[simp] theorem rEnum_s (z : Str) (ρ : List D) : rEnum [.str z] ρ = .ok (enumL 0 (signs z)) ρ := (rfl)
@[simp] theorem rZip_l (xs ys ρ : List D) : rZip [.lst xs, .lst ys] ρ = .ok ((xs.zip ys).map fun p => .tup [p.1, p.2]) ρ := (rfl)
@[simp] theorem eMeth_r (f : List D → List D → Option (D × List D)) (i : Nat) (ψ : EM (List D)) (ρ : List D) : eMeth f i ψ ρ = (ψ ρ).bind fun as ρ => match ρ.getD i .non with
  | .lst ds => match f ds as with
    | some (d, ds') => .ok d (ρ.set i (.lst ds'))
    | none => .bad
  | _ => .bad := (rfl)
theorem fApp_r {ds : List D} {x : D} (h : ds.length < sizeLine) : fApp ds [x] = some (.non, ds ++ [x]) := if_pos h
@[simp] theorem eBinN_r (f : D → D → Option (List D)) (ka kb : Od) (φa φb : EM D) (ρ : List D) : eBinN f ka φa kb φb ρ = (φa ρ).bind fun x ρ => (φb ρ).bind fun y ρ => liftO ((f (ka.res x ρ) (kb.res y ρ)).map D.lst) ρ := (rfl)
theorem fCat_r {xs ys : List D} (h : xs.length + ys.length ≤ sizeLine) : fCat (.lst xs) (.lst ys) = some (xs ++ ys) := if_pos h
@[simp] theorem eSlc_r (f : D → Option Int → Option Int → Option D) (k : Od) (φ : EM D) (φl φh : EM (Option Int)) (ρ : List D) : eSlc f k φ φl φh ρ = (φ ρ).bind fun x ρ => (φl ρ).bind fun l ρ => (φh ρ).bind fun h ρ => liftO (f (k.res x ρ) l h) ρ := (rfl)
@[simp] theorem pNone_r (ρ : List D) : pNone ρ = .ok none ρ := (rfl)
@[simp] theorem pSome_r (φ : EM D) (ρ : List D) : pSome φ ρ = (φ ρ).bind asI := (rfl)
@[simp] theorem asI_r (i : Int) (ρ : List D) : asI (.int i) ρ = .ok (some i) ρ := (rfl)
@[simp] theorem dCutL_l (ds : List D) (lo hi : Option Int) : dCutL (.lst ds) lo hi = some (.lst (cutL ds lo hi)) := (rfl)
@[simp] theorem dCut_t (ds : List D) (lo hi : Option Int) : dCut (.tup ds) lo hi = some (.tup (cutL ds lo hi)) := (rfl)
theorem dCut_s {z : Str} (lo hi : Option Int) (h : z.length ≤ sizeLine) : dCut (.str z) lo hi = some (.str (cutS z lo hi)) := if_pos h
@[simp] theorem eM1_r (f : Str → D → Option D) (φa : EM D) (kb : Od) (φb : EM D) (ρ : List D) : eM1 f φa kb φb ρ = (φa ρ).bind fun x ρ => withS x fun z => (φb ρ).bind fun y ρ => liftO (f z (kb.res y ρ)) ρ := (rfl)
@[simp] theorem withS_s (z : Str) (f : Str → R D) : withS (.str z) f = f z := (rfl)
@[simp] theorem sUnp_r (tp : TP) (φ : EM D) (ρ : List D) : sUnp tp φ ρ = (φ ρ).bind fun d ρ => match tp.bind d ρ with
  | some ρ => .ok .nx ρ
  | none => .bad := (rfl)
@[simp] theorem bind_nm (i : Nat) (d : D) (ρ : List D) : TP.bind (.nm i) d ρ = some (ρ.set i d) := (rfl)
@[simp] theorem bind_pr (l : List TP) (ds ρ : List D) : TP.bind (.pr l) (.tup ds) ρ = TP.bindL l ds ρ := (rfl)
@[simp] theorem bindL_nil (ρ : List D) : TP.bindL [] [] ρ = some ρ := (rfl)
@[simp] theorem bindL_cons (t : TP) (l : List TP) (d : D) (ds ρ : List D) : TP.bindL (t :: l) (d :: ds) ρ = (t.bind d ρ).bind fun ρ => TP.bindL l ds ρ := (rfl)
end VL
/-! VL19: the law's draws. -/
namespace VL
open PySem L2
/-- how a law draws its numbers of the script -/
def drawsB : SM := sSeq (sSet 2 (eLst (eNil))) (sSeq (sFor (eRg rg1 (eCons (eVar 1) (eNil))) (.nm 3) (sSeq (sSet 4 (eC (.int 0))) (sSeq (sIf (eT (eBin dGt (.v .im) (eCB fLen [.v (.L .im)] (eCons (eVar 0) (eNil))) (.v .im) (eC (.int 0)))) (sSet 4 (eBin dMod (.v .im) (eBin dIx (.v (.L .im)) (eVar 0) (.v .im) (eBin dMod (.v .im) (eVar 3) (.v .im) (eCB fLen [.v (.L .im)] (eCons (eVar 0) (eNil))))) (.v .im) (eBin dPow (.v .im) (eC (.int 10)) (.v .im) (eC (.int 18))))) (sNx)) (sDo (eMeth fApp 2 (eCons (eBin dAdd (.v .im) (eVar 4) (.v .im) (eBin dMul (.v .im) (eC (.int 7919)) (.v .im) (eBin dDiv (.v .im) (eVar 3) (.v .im) (eCB fMax [.v .im, .v .im] (eCons (eC (.int 1)) (eCons (eCB fLen [.v (.L .im)] (eCons (eVar 0) (eNil))) (eNil))))))) eNil)))))) (sRet (eVar 2)))
theorem small_63 {n : Nat} (h : n ≤ 10000) : -(2 ^ 62) ≤ (n : Int) ∧ (n : Int) < 2 ^ 62 := by
  rw [show (2 : Int) ^ 62 = 4611686018427387904 from rfl]
  omega
theorem ten18 : dPow (.int 10) (.int 18) = some (.int 1000000000000000000) := by rw [dPow_r (by decide)]; rfl
theorem size_lt {n : Nat} (h : n ≤ 100000) : n < sizeLine := Nat.lt_of_le_of_lt h (by decide)
theorem mul_7919 (x : Int) : dMul (.int 7919) (.int x) = some (.int (7919 * x)) := dMul_r (mulOk_l (by constructor <;> decide))
theorem log2_lt {n : Nat} (h : n ≤ 10000) (h0 : 0 < n) : n.log2 < 9000 := by
  have h1 : n.log2 < 14 := (Nat.log2_lt (by omega)).mpr (by
    rw [show (2 : Nat) ^ 14 = 16384 from rfl]
    omega)
  omega
theorem draws_sat (ns : List Int) (hn : ns.length ≤ 10000) (n : Nat) (h : n ≤ 10000) : (mkF false 5 2 drawsB [.lst (ns.map D.int), .int n]).sat fun d _ => ∃ ds : List Int, d = .lst (ds.map D.int) ∧ ds.length = n ∧ ∀ x ∈ ds, 0 ≤ x ∧ x < 1000000000079190000 := by
  refine mkF_sat ?_
  unfold drawsB
  simp [rg1_r (small_63 h)]
  refine forUp_sat (fun k ρ => ∃ (ds : List Int) (a b : D), ρ = [.lst (ns.map D.int), .int n, .lst (ds.map D.int), a, b] ∧ ds.length = k ∧ ∀ x ∈ ds, 0 ≤ x ∧ x < 1000000000079190000) ⟨[], _, _, rfl, rfl, fun _ h => (List.not_mem_nil h).elim⟩ (fun k ρ hk ⟨ds, a, b, e, hl, hd⟩ => ?_) (fun ρ ⟨ds, a, b, e, hl, hd⟩ => ?_)
  · subst e
    have hs : (ds.map D.int).length < sizeLine := by
      rw [List.length_map]
      exact size_lt (by omega)
    have fin : ∀ x : Int, 0 ≤ x → x < 1000000000079190000 → ∃ ds_1 : List Int, List.map D.int ds ++ [D.int x] = List.map D.int ds_1 ∧ ds_1.length = k + 1 ∧ ∀ x ∈ ds_1, 0 ≤ x ∧ x < 1000000000079190000 := fun x h0 h1 => by
      refine ⟨ds ++ [x], by rw [List.map_append]; rfl, by rw [List.length_append, hl]; rfl, fun y hy => ?_⟩
      rcases List.mem_append.mp hy with z | z
      · exact hd y z
      · rw [List.mem_singleton.mp z]; exact ⟨h0, h1⟩
    by_cases h0 : ns.length = 0
    · have e0 : ns = [] := List.length_eq_zero_iff.mp h0
      subst e0
      have d1 : dDiv (.int (k : Int)) (.int 1) = some (.int ((k : Int) / 1)) := dDiv_r (by decide)
      simp [d1, mul_7919, fApp_r hs]
      exact fin _ (by omega) (by omega)
    · have hp : 0 < ns.length := by omega
      have mm : dMod (.int (k : Int)) (.int (ns.length : Int)) = some (.int ((k : Int) % (ns.length : Int))) := dMod_r (by omega)
      have hi : k % ns.length < ns.length := Nat.mod_lt _ hp
      have ix : atI (ns.map D.int) ((k : Int) % (ns.length : Int)) = some (.int ns[k % ns.length]) := by
        rw [show (k : Int) % (ns.length : Int) = ((k % ns.length : Nat) : Int) by omega]
        exact atI_r (by rw [List.getElem?_map, List.getElem?_eq_getElem hi]; rfl)
      have mt : ∀ x : Int, dMod (.int x) (.int 1000000000000000000) = some (.int (x % 1000000000000000000)) := fun x => dMod_r (by decide)
      have mx : (if (ns.length : Int) > 1 then (ns.length : Int) else 1) = (ns.length : Int) := by split <;> omega
      have mx' : (if 1 < (ns.length : Int) then (ns.length : Int) else 1) = (ns.length : Int) := mx
      have mx2 : (if 1 < ns.length then (ns.length : Int) else 1) = (ns.length : Int) := by split <;> omega
      have d1 : dDiv (.int (k : Int)) (.int (ns.length : Int)) = some (.int ((k : Int) / (ns.length : Int))) := dDiv_r ⟨by omega, by
        rw [Int.natAbs_natCast]
        exact log2_lt hn hp⟩
      simp [hp, mm, ix, mt, ten18, mx, mx', mx2, d1, mul_7919, fApp_r hs]
      have q : (k : Int) / (ns.length : Int) ≤ 10000 := Int.le_trans (Int.ediv_le_self _ (by omega)) (by omega)
      have q0 : 0 ≤ (k : Int) / (ns.length : Int) := Int.ediv_nonneg (by omega) (by omega)
      exact fin _ (by omega) (by omega)
  · subst e
    simp
    exact ⟨ds, rfl, hl, hd⟩
end VL
/-! VL20: facts of texts and lists by value. -/
namespace VL
open PySem L2
theorem py_strs : ∀ ws : List Str, PyData.plainAll (D.pyL (ws.map D.str)) = true
  | [] => rfl
  | w :: ws => by
    show (true && PyData.plainAll (D.pyL (ws.map D.str))) = true
    rw [py_strs ws]
    rfl
theorem any_strs (z : Str) (ws : List Str) : (ws.map D.str).any (fun y => D.eqv y (.str z)) = decide (z ∈ ws) := by
  rw [List.any_map]
  by_cases h : z ∈ ws
  · rw [decide_eq_true h, List.any_eq_true]
    exact ⟨z, h, by show (z == z) = true; exact beq_self_eq_true z⟩
  · rw [decide_eq_false h, List.any_eq_false]
    intro y hy e
    have e' : (y == z) = true := e
    exact h (by rw [← eq_of_beq e']; exact hy)
theorem dIn_strL (neg : Bool) (z : Str) (ws : List Str) : dIn neg (.str z) (.lst (ws.map D.str)) = some (.bl (if neg = true then !decide (z ∈ ws) else decide (z ∈ ws))) := by
  have h : (PyData.plain (D.py (.str z)) && PyData.plainAll (D.pyL (ws.map D.str)) && decide (min (PyData.depthAll (D.pyL (ws.map D.str))) (D.py (.str z)).depth ≤ 150)) = true := by
    rw [py_strs, Bool.and_eq_true, Bool.and_eq_true, decide_eq_true_iff]
    exact ⟨⟨rfl, rfl⟩, Nat.le_trans (Nat.min_le_right _ _) (show (PyData.str z).depth ≤ 150 by show 0 ≤ 150; omega)⟩
  refine (if_pos h).trans ?_
  rw [any_strs]
theorem dIn_strT (neg : Bool) (z : Str) (ws : List Str) : dIn neg (.str z) (.tup (ws.map D.str)) = some (.bl (if neg = true then !decide (z ∈ ws) else decide (z ∈ ws))) := by
  have h : (PyData.plain (D.py (.str z)) && PyData.plainAll (D.pyL (ws.map D.str)) && decide (min (PyData.depthAll (D.pyL (ws.map D.str))) (D.py (.str z)).depth ≤ 150)) = true := by
    rw [py_strs, Bool.and_eq_true, Bool.and_eq_true, decide_eq_true_iff]
    exact ⟨⟨rfl, rfl⟩, Nat.le_trans (Nat.min_le_right _ _) (show (PyData.str z).depth ≤ 150 by show 0 ≤ 150; omega)⟩
  refine (if_pos h).trans ?_
  rw [any_strs]
theorem dIn_sign (neg : Bool) (c : Nat) (z : Str) : dIn neg (.str ⟨#[c]⟩) (.str z) = some (.bl (if neg = true then !decide (c ∈ z.cps.toList) else decide (c ∈ z.cps.toList))) := by
  show (if (#[c] : Array Nat).size = 1 then some _ else none) = _
  exact if_pos rfl
theorem dIx_sign {z : Str} {i : Int} (hz : z.length ≤ sizeLine) (h0 : 0 ≤ i) (h : i < z.cps.size) : dIx (.str z) (.int i) = some (.str ⟨#[z.cps.getD i.toNat 0]⟩) := by
  rw [dIx_s _ hz, atI_i h0 (by rw [Array.length_toList]; exact h), Array.getElem?_toList]
  have hi : i.toNat < z.cps.size := by omega
  rw [Array.getD_eq_getD_getElem?, Array.getElem?_eq_getElem hi]
  rfl
/-- a part of a list of numbers -/
theorem dIx_ints {ds : List Int} {i : Int} (h0 : 0 ≤ i) (h : i < ds.length) : dIx (.lst (ds.map D.int)) (.int i) = some (.int (ds.getD i.toNat 0)) := by
  rw [dIx_l, atI_i h0 (by rw [List.length_map]; exact h), List.getElem?_map]
  have hi : i.toNat < ds.length := by omega
  rw [List.getD_eq_getElem?_getD, List.getElem?_eq_getElem hi]
  rfl
theorem dIx_strs {ds : List Str} {i : Int} (h0 : 0 ≤ i) (h : i < ds.length) : dIx (.lst (ds.map D.str)) (.int i) = some (.str (ds.getD i.toNat "")) := by
  rw [dIx_l, atI_i h0 (by rw [List.length_map]; exact h), List.getElem?_map]
  have hi : i.toNat < ds.length := by omega
  rw [List.getD_eq_getElem?_getD, List.getElem?_eq_getElem hi]
  rfl
theorem atI_ex {α : Type} {ds : List α} {i : Int} (h0 : 0 ≤ i) (h : i < ds.length) : ∃ d, atI ds i = some d ∧ d ∈ ds := by
  have hi : i.toNat < ds.length := by omega
  refine ⟨ds[i.toNat], ?_, List.getElem_mem hi⟩
  rw [atI_i h0 h, List.getElem?_eq_getElem hi]
@[simp] theorem ofString_inj (a b : String) : Str.ofString a = Str.ofString b ↔ a = b := by
  refine ⟨fun h => ?_, fun h => by rw [h]⟩
  rw [Str.ofString_eq_toList, Str.ofString_eq_toList] at h
  have h1 : a.toList.map Char.toNat = b.toList.map Char.toNat := by
    have := congrArg (fun s : Str => s.cps.toList) h
    simpa using this
  have h2 : a.toList = b.toList := (List.map_inj_right fun x y e => Char.ext (UInt32.toNat_inj.mp e)).mp h1
  exact String.toList_inj.mp h2
theorem map_at {α β : Type} {f : α → β} {l : List α} {i : Nat} {y : β} (h : (l.map f)[i]? = some y) : ∃ x, l[i]? = some x ∧ y = f x := by
  rw [List.getElem?_map] at h
  cases e : l[i]? with
  | none => rw [e] at h; cases h
  | some x =>
    rw [e] at h
    cases h
    exact ⟨x, rfl, rfl⟩
theorem take_snoc {α : Type} {l : List α} {i : Nat} {x : α} (h : l[i]? = some x) : l.take (i + 1) = l.take i ++ [x] := by
  rw [List.take_succ, h]
  rfl
theorem fPop_ints {ds : List Int} {n : Nat} (h : ds.length = n + 1) : ∃ (x : Int) (ds' : List Int), fPop (ds.map D.int) [] = some (.int x, ds'.map D.int) ∧ ds'.length = n := by
  have hn : ds ≠ [] := by intro e; rw [e] at h; simp at h
  refine ⟨ds.getLast hn, ds.dropLast, ?_, by rw [List.length_dropLast]; omega⟩
  have e : (ds.map D.int)[(ds.map D.int).length - 1]? = some (.int (ds.getLast hn)) := by
    rw [List.length_map, List.getElem?_map, ← List.getLast?_eq_getElem?, List.getLast?_eq_some_getLast hn]
    rfl
  unfold fPop
  rw [e]
  show some (D.int _, _) = _
  rw [List.map_dropLast]
theorem fPopAt_ints {ds : List Int} {n : Nat} (h : ds.length = n + 1) : ∃ (x : Int) (ds' : List Int), fPopAt (ds.map D.int) [.int 0] = some (.int x, ds'.map D.int) ∧ ds'.length = n := by
  cases ds with
  | nil => simp at h
  | cons x ds =>
    refine ⟨x, ds, ?_, by simpa using h⟩
    unfold fPopAt
    show (if -(2 ^ 63) ≤ (0 : Int) ∧ (0 : Int) < 2 ^ 63 then _ else none) = _
    rw [if_pos (by decide)]
    have e : seqIndex? 0 (List.map D.int (x :: ds)).length = some 0 := by
      rw [List.length_map, List.length_cons]
      unfold seqIndex?
      simp
    rw [e]
    rfl
theorem signs_at {z : Str} {i : Nat} {d : D} (h : (signs z)[i]? = some d) : ∃ c, z.cps.toList[i]? = some c ∧ d = .str ⟨#[c]⟩ := by
  unfold signs at h
  rw [List.getElem?_map] at h
  cases e : z.cps.toList[i]? with
  | none => rw [e] at h; cases h
  | some c =>
    rw [e] at h
    cases h
    exact ⟨c, rfl, rfl⟩
theorem signs_len (z : Str) : (signs z).length = z.length := by
  unfold signs
  rw [List.length_map, Array.length_toList]
  rfl
theorem cut_ints (ds : List Int) (lo hi : Option Int) : cutL (ds.map D.int) lo hi = (cutL ds lo hi).map D.int := by
  unfold cutL
  rw [List.length_map, List.map_take, List.map_drop]
theorem cutL_len {α : Type} (ds : List α) (lo hi : Option Int) : (cutL ds lo hi).length ≤ ds.length := by
  unfold cutL
  rw [List.length_take, List.length_drop]
  omega
theorem len_app (a b : Str) : (a ++ b).length = a.length + b.length := Array.size_append ..
theorem cutS_len (z : Str) (lo hi : Option Int) : (cutS z lo hi).length ≤ z.length := by
  unfold cutS
  show (List.toArray _).size ≤ _
  rw [List.size_toArray, List.length_take, List.length_drop, Array.length_toList]
  show _ ≤ z.cps.size
  omega
end VL
/-! VL21: insert; xs[i] = e. -/
namespace VL
open PySem L2
section
variable {X : Cx} {Z : Zx} {L : Lp} {Γ Γ' : Gx} {o e a b c : Expr} {es : List Expr} {φ φa φb : EM D} {ψ : EM (List D)} {t u ta tb tr : Ty} {pos apos cpos p2 : Pos} {ks : List AK}
def fIns (ds as : List D) : Option (D × List D) := match as with
  | [.int i, x] => if ds.length < sizeLine ∧ 0 ≤ i ∧ i < 2 ^ 63 then some (.non, ds.take i.toNat ++ [x] ++ ds.drop i.toNat) else none
  | _ => none
def rIns : V → List V → Hp → VK → Prop := fun x vs H Q => ∃ (l : Addr) (xs : List V) (i : Int) (y : V), x = .ref l ∧ vs = [.int i, y] ∧ H l = some (.lst xs) ∧ xs.length < sizeLine ∧ 0 ≤ i ∧ i < 2 ^ 63 ∧ Q .non (upd H l (.lst (xs.take i.toNat ++ [y] ++ xs.drop i.toNat)))
theorem ins_s {K : PySem.W.Frag} (h : u.le ta = true) : MtS K rIns fIns ta [.im, u] .im := fun H W a ds as xs vs d ds' hH f fa hd hl hf => by
  obtain ⟨x0, r0, rfl, hx0, x, r, rfl, hx, hr⟩ := hl
  have hr : r = [] := hr
  subst hr
  obtain ⟨v0, s0, rfl, fv0, v, s, rfl, fv, fs⟩ := fa
  have fs : s = [] := fs
  subst fs
  unfold fIns at hf
  split at hf
  · rename_i i y e
    cases e
    split at hf
    · rename_i c
      cases hf
      have fv0 : v0 = .int i := fv0
      subst fv0
      refine ⟨xs.take i.toNat ++ [v] ++ xs.drop i.toNat, .non, ((f.take _).append (.one fv)).append (f.drop _), rfl, fun y hy => ?_, rfl, fun Q q => ⟨a, xs, i, v, rfl, rfl, hH, by rw [← f.length]; exact c.1, c.2.1, c.2.2, q⟩⟩
      rcases List.mem_append.mp hy with z | z
      · rcases List.mem_append.mp z with z | z
        · exact hd y (List.mem_of_mem_take z)
        · rw [List.mem_singleton.mp z]; exact Ty.le_has h hx
      · exact hd y (List.mem_of_mem_drop z)
    · cases hf
  · cases hf
theorem se_ins {i : Nat} (hK : Z.K = X.K) (ho : SO X Z Γ o eSl (.s i)) (ha : SE X Z Γ a φa .im) (he : SE X Z Γ e φ u) (hi : Γ[i]? = some (.own (.L ta)) := by rfl) (hu : u.le ta = true := by rfl)
    (hbase : attributeBase o "insert" X.env (eval o X.env) = eval o X.env := by rfl)
    (hfew : ((backTo cpos (starEach [a, e] X.env)).all (fun p => !p.1) && (backToKw cpos (keywordEach [] X.env)).all (fun p => p.1.isSome) && decide ([a, e].length + ([] : List Keyword).length + (if ([] : List Keyword).isEmpty then 0 else 1) < 30)) = true := by rfl)
    (hline : (apos.endLine == cpos.line) = true := by rfl) (hs : starEach [a, e] X.env = (false, eval a X.env) :: starEach [e] X.env := by rfl) (hs2 : starEach [e] X.env = (false, eval e X.env) :: starEach [] X.env := by rfl) (hpl : (backTo cpos (starEach [e] X.env)).any (·.1) = false := by rfl) :
    SE X Z Γ (.Call (.Attribute o "insert" apos) [a, e] [] cpos) (eMeth fIns i (eCons φa (eCons φ eNil))) .im :=
  se_meth hK PySem.F.plainAttrs_list PySem.F.slot_list_insert PySem.F.type_list_insert mt_insert (ins_s hu) ho (sa_cons ha (sa_cons he sa_nil hs2) hs) hi rfl hbase hfew hline hs hpl
theorem SAft.ofE {α β : Type} {P : α → β → L2.St → Hp → AS → Prop} {σ : L2.St} {H : Hp} {U : AS} {D : Ends} {Q : β → Hp → Prop} {x : R α} {f : α → List VL.D → R Fl} (hX : Gx.le Γ Z.ΓX = true)
    (q : SAft Z L Γ Γ' σ H U D (x.bind f)) (k : ∀ a ρ1 y H1, Ext H (Wr Γ σ) H1 → Rel Z.K Γ U ρ1 σ H1 → P a y σ H1 (Wa Γ σ U) → SAft Z L Γ Γ' σ H1 U D (f a ρ1) → Q y H1) : Aft Z Γ P σ H U Q x := by
  cases x with
  | bad => exact q
  | ok a ρ1 => exact fun y H1 e R p => k a ρ1 y H1 e R p (q.later ⟨e, fun _ _ _ => rfl⟩ fun _ z => .inl z)
  | exc c p ρ1 => exact fun cls od H1 e R xr => q cls od σ H1 ⟨e, fun _ _ _ => rfl⟩ (fun x z => .inl (Gx.le_wr hX x z)) R xr
/-- xs[i] = e -/
def sPut (i : Nat) (φi φ : EM D) : SM := fun ρ => (φ ρ).bind fun d ρ => (φi ρ).bind fun k ρ => match ρ.getD i .non, k with
  | .lst ds, .int j => match ixN ds.length j with
    | some n => .ok .nx (ρ.set i (.lst (ds.set n d)))
    | none => .bad
  | _, _ => .bad
theorem set_mem {α : Type} {l : List α} {n : Nat} {x y : α} (h : y ∈ l.set n x) : y = x ∨ y ∈ l := by
  rcases List.mem_or_eq_of_mem_set h with z | z
  · exact .inr z
  · exact .inl z
theorem ss_put {i : Nat} {pos' : Pos} {φi : EM D} (ho : SO X Z Γ o eSl (.s i)) (hi : SE X Z Γ a φi ta) (he : SE X Z Γ e φ u) (hΓ : Γ[i]? = some (.own (.L t)) := by rfl) (hu : u.le t = true := by rfl) (hX : Gx.le Γ Z.ΓX = true := by rfl)
    (hs : swapsWithSole [.Subscript o a pos'] e pos.line X.env = pure false := by rfl) (hw : swappedStores [.Subscript o a pos'] e X.env = pure none := by rfl) (h1 : (assignEach [.Subscript o a pos'] X.env).map (·.2) = [assign (.Subscript o a pos') X.env] := by rfl)
    (ha : ∀ v, assign (.Subscript o a pos') X.env v = (do
      let ov ← holding [v] (eval o X.env)
      let iv ← holding [v, ov] (eval a X.env)
      standAt pos'
      holding [v, ov, iv] (setItem ov iv v)
      release [v, ov, iv] []) := by intro _; rfl) :
    SS X Z L Γ Γ (.Assign [.Subscript o a pos'] e pos) (sPut i φi φ) := PS.imp (ps_asg he (pg_sub ho hi set_list ha) hs hw h1) fun D σ H ⟨ρ, U, R, q⟩ =>
  ⟨ρ, U, R, SAft.ofE hX q fun d ρ1 v H1 e1 R1 p1 q => ⟨ρ1, U, R1, fun w H2 e2 R2 p2 => ⟨ρ1, U, R2, SAft.ofE hX (q.later ⟨e2, fun _ _ _ => rfl⟩ fun _ z => .inl z) fun k ρ3 y H3 e3 R3 p3 q3 => by
    obtain ⟨dd, l, h1, h2, h3, h4, _⟩ := R3.own i _ hΓ
    have hσ : σ[i]? = some (some w) := p2
    rw [h2] at hσ
    cases hσ
    rw [getD_of h1] at q3
    obtain ⟨ds, rfl, hds⟩ := h4
    rcases h3 with ⟨ds2, xs, k1, k2, k3⟩ | ⟨ds2, xs, k1, k2, k3⟩
    · cases k1
      cases k with
      | int j =>
        have q3 : SAft Z L Γ Γ σ H3 U D (match ixN ds.length j with
          | some n => .ok .nx (ρ3.set i (.lst (ds.set n d)))
          | none => .bad) := q3
        cases hn : ixN ds.length j with
        | none =>
          rw [hn] at q3
          exact q3.elim
        | some n =>
          rw [hn] at q3
          have fv : Fz Z.K H3 (Wa Γ σ U) d v := Fz.ext (fun _ z => .inl z) (e2.trans e3) p1.1
          obtain ⟨Rn, en⟩ := R3.updL hΓ h2 k2 (k3.set n fv) ⟨_, rfl, fun x hx => (set_mem hx).elim (fun z => by rw [z]; exact Ty.le_has hu p1.2) (hds x)⟩
          exact ⟨l, xs, j, n, rfl, p3.1, k2, by rw [← k3.length]; exact hn, q3 σ _ ⟨en, fun _ _ _ => rfl⟩ (fun _ z => .inl z) Rn⟩
      | _ => exact q3.elim
    · cases k1⟩⟩⟩
end
end VL
/-! VL22: the terms that the laws make. -/
namespace VL
open PySem L2
def words : List Str := ["fun", "let", "choose", "first", "stop", "rows", "in", "when", "be"]
def isLow (c : Nat) : Bool := decide (c ∈ ("abcdefghijklmnopqrstuvwxyz" : Str).cps.toList)
def isFig (c : Nat) : Bool := decide (c ∈ ("0123456789" : Str).cps.toList)
/-- a name -/
structure NameOk (z : Str) : Prop where
  one : 1 ≤ z.length
  eight : z.length ≤ 8
  word : z ∉ words
  all : ∀ c ∈ z.cps.toList, isLow c = true ∨ isFig c = true
  low : isLow (z.cps.getD 0 0) = true
def nameB : SM := sSeq (sSet 1 (eC (.str "abcdefghijklmnopqrstuvwxyz0123456789"))) (sSeq (sSet 2 (eBin dIx (.v .im) (eVar 1) (.v .im) (eBin dMod (.v .im) (eVar 0) (.v .im) (eC (.int 26))))) (sSeq (sFor (eRg rg1 (eCons (eBin dMod (.v .im) (eBin dDiv (.v .im) (eVar 0) (.v .im) (eC (.int 26))) (.v .im) (eC (.int 8))) (eNil))) (.nm 3) (sSeq (sSet 4 (eBin dAdd (.v .im) (eBin dAdd (.v .im) (eBin dDiv (.v .im) (eVar 0) (.v .im) (eC (.int 208))) (.v .im) (eBin dMul (.v .im) (eBin dMul (.v .im) (eC (.int 11)) (.v .im) (eVar 3)) (.v .im) (eVar 3))) (.v .im) (eBin dMul (.v .im) (eBin dMod (.v .im) (eBin dDiv (.v .im) (eVar 0) (.v .im) (eC (.int 7488))) (.v .im) (eC (.int 36))) (.v .im) (eVar 3)))) (sSet 2 (eBin dAdd (.v .im) (eVar 2) (.v .im) (eBin dIx (.v .im) (eVar 1) (.v .im) (eBin dMod (.v .im) (eVar 4) (.v .im) (eC (.int 36)))))))) (sSeq (sIf (eT (eBin (dIn false) (.v .im) (eVar 2) (.v (.L .im)) (eLst (eCons (eC (.str "fun")) (eCons (eC (.str "let")) (eCons (eC (.str "choose")) (eCons (eC (.str "first")) (eCons (eC (.str "stop")) (eCons (eC (.str "rows")) (eCons (eC (.str "in")) (eCons (eC (.str "when")) (eCons (eC (.str "be")) (eNil))))))))))))) (sRet (eBin dAdd (.v .im) (eVar 2) (.v .im) (eC (.str "0")))) (sNx)) (sRet (eVar 2)))))
def unlikeB : SM := sSeq (sSet 3 (eLst (eNil))) (sSeq (sFor (eRg rg1 (eCons (eVar 1) (eNil))) (.nm 4) (sSeq (sSet 5 (eBin dIx (.v (.L .im)) (eVar 2) (.v .im) (eBin dMod (.v .im) (eBin dDiv (.v .im) (eVar 0) (.v .im) (eBin dAdd (.v .im) (eBin dMul (.v .im) (eC (.int 5)) (.v .im) (eVar 4)) (.v .im) (eC (.int 1)))) (.v .im) (eCB fLen [.v (.L .im)] (eCons (eVar 2) (eNil)))))) (sSeq (sIf (eT (eBin (dIn false) (.v .im) (eVar 5) (.s 3) (eSl))) (sSeq (sSet 6 (eLst (eCons (eC (.str "q1")) (eCons (eC (.str "q2")) (eCons (eC (.str "q3")) (eCons (eC (.str "q4")) (eCons (eC (.str "q5")) (eCons (eC (.str "q6")) (eNil))))))))) (sSet 5 (eBin dIx (.v (.L .im)) (eLc (eItL (eVar 6)) (.nm 7) (eT (eBin (dIn true) (.v .im) (eVar 7) (.s 3) (eSl))) (eVar 7)) (.v .im) (eC (.int 0))))) (sNx)) (sDo (eMeth fApp 3 (eCons (eVar 5) eNil)))))) (sRet (eVar 3)))
def leafB : SM := sSeq (sIf (eT (eBin dEq (.v .im) (eBin dMod (.v .im) (eVar 0) (.v .im) (eC (.int 4))) (.v .im) (eC (.int 0)))) (sRet (eTup (eCons (eC (.str "number")) (eCons (eBin dIx (.v (.L .im)) (eLst (eCons (eBin dMod (.v .im) (eBin dDiv (.v .im) (eVar 0) (.v .im) (eC (.int 4))) (.v .im) (eC (.int 10))) (eCons (eBin dMod (.v .im) (eBin dMul (.v .im) (eVar 0) (.v .im) (eC (.int 982451653))) (.v .im) (eBin dPow (.v .im) (eC (.int 10)) (.v .im) (eC (.int 18)))) (eNil)))) (.v .im) (eBin dMod (.v .im) (eBin dDiv (.v .im) (eVar 0) (.v .im) (eC (.int 40))) (.v .im) (eC (.int 2)))) (eNil))))) (sNx)) (sSeq (sIf (eT (eBin dEq (.v .im) (eBin dMod (.v .im) (eVar 0) (.v .im) (eC (.int 4))) (.v .im) (eC (.int 1)))) (sRet (eTup (eCons (eC (.str "shape")) (eCons (eBin dIx (.v (.L .im)) (eLst (eCons (eC (.str "Nil")) (eCons (eC (.str "No")) (eCons (eC (.str "Yes")) (eNil))))) (.v .im) (eBin dMod (.v .im) (eBin dDiv (.v .im) (eVar 0) (.v .im) (eC (.int 4))) (.v .im) (eC (.int 3)))) (eCons (eTup (eNil)) (eNil)))))) (sNx)) (sSeq (sIf (eT (eBin dEq (.v .im) (eBin dMod (.v .im) (eVar 0) (.v .im) (eC (.int 16))) (.v .im) (eC (.int 2)))) (sRet (eTup (eCons (eC (.str "stop")) (eCons (eBin dIx (.v (.L .im)) (eVar 1) (.v .im) (eBin dMod (.v .im) (eBin dDiv (.v .im) (eVar 0) (.v .im) (eC (.int 16))) (.v .im) (eCB fLen [.v (.L .im)] (eCons (eVar 1) (eNil))))) (eNil))))) (sNx)) (sRet (eTup (eCons (eC (.str "name")) (eCons (eBin dIx (.v (.L .im)) (eVar 1) (.v .im) (eBin dMod (.v .im) (eBin dDiv (.v .im) (eVar 0) (.v .im) (eC (.int 4))) (.v .im) (eCB fLen [.v (.L .im)] (eCons (eVar 1) (eNil))))) (eNil)))))))
def chosenB (f_unlike : List D → R D) : SM := sSeq (sIf (eT (eBin dEq (.v .im) (eBin dMod (.v .im) (eVar 0) (.v .im) (eC (.int 3))) (.v .im) (eC (.int 0)))) (sRet (eTup (eCons (eTup (eCons (eC (.str "Nil")) (eCons (eTup (eNil)) (eCons (eBin dIx (.v (.L .im)) (eVar 1) (.v .im) (eC (.int 1))) (eNil))))) (eCons (eTup (eCons (eC (.str "Cons")) (eCons (eCB fTup [.v (.L .im)] (eCons (eCall f_unlike [.v .im, .v .im, .v (.L .im)] [] (eCons (eBin dDiv (.v .im) (eVar 0) (.v .im) (eC (.int 3))) (eCons (eC (.int 2)) (eCons (eVar 2) (eNil))))) (eNil))) (eCons (eBin dIx (.v (.L .im)) (eVar 1) (.v .im) (eC (.int 2))) (eNil))))) (eNil))))) (sNx)) (sSeq (sIf (eT (eBin dEq (.v .im) (eBin dMod (.v .im) (eVar 0) (.v .im) (eC (.int 3))) (.v .im) (eC (.int 1)))) (sRet (eTup (eCons (eTup (eCons (eC (.str "No")) (eCons (eTup (eNil)) (eCons (eBin dIx (.v (.L .im)) (eVar 1) (.v .im) (eC (.int 1))) (eNil))))) (eCons (eTup (eCons (eC (.str "Yes")) (eCons (eTup (eNil)) (eCons (eBin dIx (.v (.L .im)) (eVar 1) (.v .im) (eC (.int 2))) (eNil))))) (eNil))))) (sNx)) (sRet (eTup (eCons (eTup (eCons (eC (.str "Pair")) (eCons (eCB fTup [.v (.L .im)] (eCons (eCall f_unlike [.v .im, .v .im, .v (.L .im)] [] (eCons (eBin dDiv (.v .im) (eVar 0) (.v .im) (eC (.int 3))) (eCons (eC (.int 2)) (eCons (eVar 2) (eNil))))) (eNil))) (eCons (eBin dIx (.v (.L .im)) (eVar 1) (.v .im) (eC (.int 1))) (eNil))))) (eNil)))))
def rowsB : SM := sSeq (sSet 3 (eLst (eNil))) (sSeq (sFor (eRg rg1 (eCons (eBin dSub (.v .im) (eCB fLen [.v (.L .im)] (eCons (eVar 1) (eNil))) (.v .im) (eC (.int 1))) (eNil))) (.nm 4) (sSeq (sSet 5 (eBin dMod (.v .im) (eBin dDiv (.v .im) (eVar 0) (.v .im) (eBin dAdd (.v .im) (eBin dMul (.v .im) (eC (.int 3)) (.v .im) (eVar 4)) (.v .im) (eC (.int 1)))) (.v .im) (eC (.int 3)))) (sIf (eT (eBin dEq (.v .im) (eVar 5) (.v .im) (eC (.int 0)))) (sDo (eMeth fApp 3 (eCons (eTup (eCons (eC (.str "when")) (eCons (eBin dIx (.v (.L .im)) (eVar 1) (.v .im) (eBin dAdd (.v .im) (eC (.int 1)) (.v .im) (eVar 4))) (eNil)))) eNil))) (sDo (eMeth fApp 3 (eCons (eTup (eCons (eBin dIx (.v (.L .im)) (eLst (eCons (eC (.str "in")) (eCons (eC (.str "be")) (eNil)))) (.v .im) (eBin dSub (.v .im) (eVar 5) (.v .im) (eC (.int 1)))) (eCons (eBin dIx (.v (.L .im)) (eVar 2) (.v .im) (eBin dMod (.v .im) (eBin dDiv (.v .im) (eVar 0) (.v .im) (eBin dAdd (.v .im) (eBin dMul (.v .im) (eC (.int 7)) (.v .im) (eVar 4)) (.v .im) (eC (.int 3)))) (.v .im) (eCB fLen [.v (.L .im)] (eCons (eVar 2) (eNil))))) (eCons (eBin dIx (.v (.L .im)) (eVar 1) (.v .im) (eBin dAdd (.v .im) (eC (.int 1)) (.v .im) (eVar 4))) (eNil))))) eNil)))))) (sRet (eTup (eCons (eC (.str "rows")) (eCons (eBin dIx (.v (.L .im)) (eVar 1) (.v .im) (eC (.int 0))) (eCons (eCB fTup [.v (.L .im)] (eCons (eVar 3) (eNil))) (eNil)))))))
def joinedB (f_unlike : List D → R D) (f_chosen : List D → R D) (f_rows : List D → R D) : SM := sSeq (sIf (eT (eBin dEq (.v .im) (eVar 0) (.v .im) (eC (.int 1)))) (sRet (eTup (eCons (eC (.str "does")) (eCons (eBin dIx (.v .im) (eC (.str "+-*<=")) (.v .im) (eBin dMod (.v .im) (eVar 1) (.v .im) (eC (.int 5)))) (eCons (eBin dIx (.v (.L .im)) (eVar 2) (.v .im) (eC (.int 0))) (eCons (eBin dIx (.v (.L .im)) (eVar 2) (.v .im) (eC (.int 1))) (eNil))))))) (sNx)) (sSeq (sIf (eT (eBin dEq (.v .im) (eVar 0) (.v .im) (eC (.int 2)))) (sRet (eTup (eCons (eC (.str "fun")) (eCons (eBin dIx (.v (.L .im)) (eVar 3) (.v .im) (eBin dMod (.v .im) (eVar 1) (.v .im) (eCB fLen [.v (.L .im)] (eCons (eVar 3) (eNil))))) (eCons (eBin dIx (.v (.L .im)) (eVar 2) (.v .im) (eC (.int 0))) (eNil)))))) (sNx)) (sSeq (sIf (eT (eBin dEq (.v .im) (eVar 0) (.v .im) (eC (.int 3)))) (sRet (eTup (eCons (eC (.str "call")) (eCons (eBin dIx (.v (.L .im)) (eVar 2) (.v .im) (eC (.int 0))) (eCons (eBin dIx (.v (.L .im)) (eVar 2) (.v .im) (eC (.int 1))) (eNil)))))) (sNx)) (sSeq (sIf (eT (eBin dEq (.v .im) (eVar 0) (.v .im) (eC (.int 4)))) (sSeq (sSet 4 (eCall f_unlike [.v .im, .v .im, .v (.L .im)] [] (eCons (eVar 1) (eCons (eBin dSub (.v .im) (eCB fLen [.v (.L .im)] (eCons (eVar 2) (eNil))) (.v .im) (eC (.int 1))) (eCons (eVar 3) (eNil)))))) (sRet (eTup (eCons (eC (.str "let")) (eCons (eCB fTup [.v (.L .im)] (eCons (eLc (eRg rg1 (eCons (eCB fLen [.v (.L .im)] (eCons (eVar 4) (eNil))) (eNil))) (.nm 5) (eYes) (eTup (eCons (eBin dIx (.v (.L .im)) (eVar 4) (.v .im) (eVar 5)) (eCons (eBin dIx (.v (.L .im)) (eVar 2) (.v .im) (eVar 5)) (eNil))))) (eNil))) (eCons (eBin dIx (.v (.L .im)) (eVar 2) (.v .im) (eUn dNeg (.v .im) (eC (.int 1)))) (eNil))))))) (sNx)) (sSeq (sIf (eT (eBin dEq (.v .im) (eVar 0) (.v .im) (eC (.int 5)))) (sRet (eTup (eCons (eC (.str "shape")) (eCons (eBin dIx (.v (.L .im)) (eLst (eCons (eC (.str "Cons")) (eCons (eC (.str "Pair")) (eNil)))) (.v .im) (eBin dMod (.v .im) (eVar 1) (.v .im) (eC (.int 2)))) (eCons (eTup (eCons (eBin dIx (.v (.L .im)) (eVar 2) (.v .im) (eC (.int 0))) (eCons (eBin dIx (.v (.L .im)) (eVar 2) (.v .im) (eC (.int 1))) (eNil)))) (eNil)))))) (sNx)) (sSeq (sIf (eT (eBin dEq (.v .im) (eVar 0) (.v .im) (eC (.int 6)))) (sRet (eTup (eCons (eC (.str "choose")) (eCons (eBin dIx (.v (.L .im)) (eVar 2) (.v .im) (eC (.int 0))) (eCons (eCall f_chosen [.v .im, .v (.L .im), .v (.L .im)] [] (eCons (eVar 1) (eCons (eVar 2) (eCons (eVar 3) (eNil))))) (eNil)))))) (sNx)) (sSeq (sIf (eT (eBin dEq (.v .im) (eVar 0) (.v .im) (eC (.int 7)))) (sRet (eTup (eCons (eC (.str "first")) (eCons (eBin dIx (.v (.L .im)) (eVar 2) (.v .im) (eC (.int 0))) (eCons (eBin dIx (.v (.L .im)) (eVar 2) (.v .im) (eC (.int 1))) (eNil)))))) (sNx)) (sRet (eCall f_rows [.v .im, .v (.L .im), .v (.L .im)] [] (eCons (eVar 1) (eCons (eVar 2) (eCons (eVar 3) (eNil))))))))))))
def manyB : SM := sSeq (sIf (eT (eBin dEq (.v .im) (eVar 0) (.v .im) (eC (.int 4)))) (sRet (eBin dAdd (.v .im) (eC (.int 2)) (.v .im) (eBin dMod (.v .im) (eBin dDiv (.v .im) (eVar 1) (.v .im) (eC (.int 7))) (.v .im) (eC (.int 5))))) (sNx)) (sSeq (sIf (eT (eBin dEq (.v .im) (eVar 0) (.v .im) (eC (.int 6)))) (sRet (eBin dIx (.v (.L .im)) (eLst (eCons (eC (.int 3)) (eCons (eC (.int 3)) (eCons (eC (.int 2)) (eNil))))) (.v .im) (eBin dMod (.v .im) (eVar 1) (.v .im) (eC (.int 3))))) (sNx)) (sSeq (sIf (eT (eBin dEq (.v .im) (eVar 0) (.v .im) (eC (.int 8)))) (sRet (eBin dAdd (.v .im) (eC (.int 1)) (.v .im) (eBin dMod (.v .im) (eBin dDiv (.v .im) (eVar 1) (.v .im) (eC (.int 7))) (.v .im) (eC (.int 4))))) (sNx)) (sRet (eBin dIx (.v (.L .im)) (eLst (eCons (eC (.int 0)) (eCons (eC (.int 2)) (eCons (eC (.int 1)) (eCons (eC (.int 2)) (eCons (eC (.int 0)) (eCons (eC (.int 2)) (eCons (eC (.int 0)) (eCons (eC (.int 2)) (eNil)))))))))) (.v .im) (eVar 0)))))
theorem dIn_words (neg : Bool) (z : Str) : dIn neg (.str z) (.lst [.str "fun", .str "let", .str "choose", .str "first", .str "stop", .str "rows", .str "in", .str "when", .str "be"]) = some (.bl (if neg = true then !decide (z ∈ words) else decide (z ∈ words))) := dIn_strL neg z words
theorem mod_r (x y : Int) (h : 0 < y) : dMod (.int x) (.int y) = some (.int (x % y)) := dMod_r h
theorem div_r (x : Int) (y : Int) (h : 0 < y) (h2 : y < 100000) : dDiv (.int x) (.int y) = some (.int (x / y)) := dDiv_r ⟨h, by
  obtain ⟨n, rfl⟩ := Int.eq_ofNat_of_zero_le (Int.le_of_lt h)
  rw [Int.natAbs_natCast]
  have h1 : n.log2 < 17 := (Nat.log2_lt (by omega)).mpr (by
    rw [show (2 : Nat) ^ 17 = 131072 from rfl]
    omega)
  omega⟩
def letters : Str := "abcdefghijklmnopqrstuvwxyz0123456789"
theorem letter_low {n : Nat} (h : n < 26) : isLow (letters.cps.getD n 0) = true := by
  have : ∀ n : Fin 26, isLow (letters.cps.getD n.1 0) = true := by decide +kernel
  exact this ⟨n, h⟩
theorem letter_any {n : Nat} (h : n < 36) : isLow (letters.cps.getD n 0) = true ∨ isFig (letters.cps.getD n 0) = true := by
  have : ∀ n : Fin 36, isLow (letters.cps.getD n.1 0) = true ∨ isFig (letters.cps.getD n.1 0) = true := by decide +kernel
  exact this ⟨n, h⟩
theorem toList_app (a b : Str) : (a ++ b).cps.toList = a.cps.toList ++ b.cps.toList := Array.toList_append
theorem getD0_app {a b : Str} (h : 1 ≤ a.length) : (a ++ b).cps.getD 0 0 = a.cps.getD 0 0 := by
  have h1 : 0 < a.cps.size := h
  show (a.cps ++ b.cps).getD 0 0 = _
  rw [Array.getD_eq_getD_getElem?, Array.getD_eq_getD_getElem?, Array.getElem?_append_left h1]
theorem word_more : ∀ z ∈ words, NameOk (z ++ "0") := by
  have key : ∀ w ∈ words, 1 ≤ (w ++ ("0" : Str)).length ∧ (w ++ ("0" : Str)).length ≤ 8 ∧ w ++ ("0" : Str) ∉ words ∧ (∀ c ∈ (w ++ ("0" : Str)).cps.toList, isLow c = true ∨ isFig c = true) ∧ isLow ((w ++ ("0" : Str)).cps.getD 0 0) = true := by decide +kernel
  intro z hz
  obtain ⟨h1, h2, h3, h4, h5⟩ := key z hz
  exact ⟨h1, h2, h3, h4, h5⟩
theorem name_sat (n : Int) : (mkF false 5 1 nameB [.int n]).sat fun d _ => ∃ z, d = .str z ∧ NameOk z := by
  refine mkF_sat ?_
  unfold nameB
  have i26 : ∀ x : Int, dIx (.str "abcdefghijklmnopqrstuvwxyz0123456789") (.int (x % 26)) = some (.str ⟨#[letters.cps.getD (x % 26).toNat 0]⟩) := fun x => dIx_sign (z := letters) (by decide) (by omega) (by rw [show letters.cps.size = 36 by decide]; omega)
  have i36 : ∀ x : Int, dIx (.str "abcdefghijklmnopqrstuvwxyz0123456789") (.int (x % 36)) = some (.str ⟨#[letters.cps.getD (x % 36).toNat 0]⟩) := fun x => dIx_sign (z := letters) (by decide) (by omega) (by rw [show letters.cps.size = 36 by decide]; omega)
  simp [mod_r n 26 (by decide), div_r n 26 (by decide) (by decide), mod_r (n / 26) 8 (by decide), i26]
  have h0 : 0 ≤ n / 26 % 8 := by omega
  have h1 : n / 26 % 8 < 8 := by omega
  generalize n / 26 % 8 = m at h0 h1
  obtain ⟨m, rfl⟩ := Int.eq_ofNat_of_zero_le h0
  refine ⟨_, rg1_r (small_63 (by omega)), ?_⟩
  rw [Int.toNat_natCast]
  refine forUp_sat (fun k ρ => ∃ (z : Str) (a b : D), ρ = [.int n, .str letters, .str z, a, b] ∧ z.length = k + 1 ∧ (∀ c ∈ z.cps.toList, isLow c = true ∨ isFig c = true) ∧ isLow (z.cps.getD 0 0) = true) ⟨_, _, _, rfl, rfl, ?_, ?_⟩ (fun k ρ hk ⟨z, a, b, e, hz, ha, hl⟩ => ?_) (fun ρ ⟨z, a, b, e, hz, ha, hl⟩ => ?_)
  · intro c hc
    have hc' : c ∈ [letters.cps.getD (n % 26).toNat 0] := by simpa using hc
    rw [List.mem_singleton.mp hc']
    exact .inl (letter_low (by omega))
  · have := letter_low (n := (n % 26).toNat) (by omega)
    simpa using this
  · subst e
    have i36' : ∀ x : Int, dIx (.str letters) (.int (x % 36)) = some (.str ⟨#[letters.cps.getD (x % 36).toNat 0]⟩) := i36
    have m11 : ∀ x : Int, dMul (.int 11) (.int x) = some (.int (11 * x)) := fun x => dMul_r (mulOk_l (by constructor <;> decide))
    have hkk : (-(2 ^ 64) < (k : Int) ∧ (k : Int) < 2 ^ 64) := by
      rw [show (2 : Int) ^ 64 = 18446744073709551616 from rfl]
      omega
    have mk : ∀ x : Int, dMul (.int x) (.int (k : Int)) = some (.int (x * k)) := fun x => dMul_r (mulOk_r hkk)
    simp [div_r n 208 (by decide) (by decide), div_r n 7488 (by decide) (by decide), mod_r _ 36 (by decide), m11, mk]
    generalize n / 208 + 11 * (k : Int) * (k : Int) + n / 7488 % 36 * (k : Int) = x
    refine ⟨_, i36' x, _, dAdd_s (Nat.le_trans (show z.length + 1 ≤ 100 by omega) (by decide)), _, rfl, ?_, ?_, ?_⟩
    · rw [len_app, hz]; rfl
    · intro c hc
      have hc' : c ∈ (z ++ (⟨#[letters.cps.getD (x % 36).toNat 0]⟩ : Str)).cps.toList := by simpa using hc
      rw [toList_app] at hc'
      rcases List.mem_append.mp hc' with q | q
      · exact ha c q
      · have q' : c ∈ [letters.cps.getD (x % 36).toNat 0] := q
        rw [List.mem_singleton.mp q']
        exact letter_any (by omega)
    · have := (getD0_app (b := ⟨#[letters.cps.getD (x % 36).toNat 0]⟩) (show 1 ≤ z.length by omega)).trans rfl
      rw [← this] at hl
      simpa using hl
  · subst e
    simp [dIn_words]
    split
    · rename_i hw
      refine ⟨_, dAdd_s (Nat.le_trans (show z.length + 1 ≤ 100 by omega) (by decide)), _, rfl, word_more z hw⟩
    · rename_i hw
      exact ⟨by omega, by omega, hw, ha, hl⟩
/-! other names -/
def spare : List Str := ["q1", "q2", "q3", "q4", "q5", "q6"]
theorem spare_ok : ∀ z ∈ spare, NameOk z := by
  have key : ∀ w ∈ spare, 1 ≤ w.length ∧ w.length ≤ 8 ∧ w ∉ words ∧ (∀ c ∈ w.cps.toList, isLow c = true ∨ isFig c = true) ∧ isLow (w.cps.getD 0 0) = true := by decide +kernel
  intro z hz
  obtain ⟨h1, h2, h3, h4, h5⟩ := key z hz
  exact ⟨h1, h2, h3, h4, h5⟩
theorem filter_one {α : Type} [DecidableEq α] (x : α) : ∀ l : List α, l.Nodup → l.length ≤ (l.filter fun y => decide (y ≠ x)).length + 1
  | [], _ => Nat.zero_le _
  | y :: l, h => by
    have hn := List.nodup_cons.mp h
    by_cases e : y = x
    · subst e
      rw [List.filter_cons_of_neg (by simp), List.length_cons]
      have : (l.filter fun z => decide (z ≠ y)) = l := List.filter_eq_self.mpr fun z hz => decide_eq_true fun q => hn.1 (q ▸ hz)
      rw [this]
      exact Nat.le_refl _
    · rw [List.filter_cons_of_pos (by simpa using e), List.length_cons, List.length_cons]
      have := filter_one x l hn.2
      omega
theorem filter_many {α : Type} [DecidableEq α] : ∀ (ns l : List α), l.Nodup → l.length ≤ (l.filter fun y => decide (y ∉ ns)).length + ns.length
  | [], l, _ => by
    rw [List.filter_eq_self.mpr (fun z _ => decide_eq_true List.not_mem_nil)]
    exact Nat.le_refl _
  | n :: ns, l, h => by
    have q := filter_many ns (l.filter fun y => decide (y ≠ n)) (h.filter _)
    have q2 := filter_one n l h
    rw [List.filter_filter] at q
    have e : (l.filter fun a => decide (a ∉ ns) && decide (a ≠ n)) = l.filter fun y => decide (y ∉ n :: ns) := by
      congr 1
      funext y
      by_cases h1 : y = n <;> by_cases h2 : y ∈ ns <;> simp [h1, h2]
    rw [e] at q
    rw [List.length_cons]
    omega
/-- the names that a comprehension leaves -/
theorem lc_strs {tp : TP} {ψ : EM Bool} {i : Nat} {ρ : List D} {p : Str → Bool} (ds : List Str) (htp : tp = .nm i) (hp : ∀ z ρ', (∃ d, ρ' = ρ.set i d) → ψ (ρ'.set i (.str z)) = .ok (p z) (ρ'.set i (.str z))) (hl : ds.length ≤ 1000) (hi : i < ρ.length) :
    (lcL tp ψ (eVar i) (ds.map D.str) [] ρ).sat fun acc ρ2 => acc = (ds.filter p).map D.str ∧ ∃ d, ρ2 = ρ.set i d := by
  subst htp
  refine lc_sat _ _ _ (fun k acc ρ2 => acc = ((ds.take k).filter p).map D.str ∧ ∃ d, ρ2 = ρ.set i d) ⟨rfl, ρ[i], (List.set_getElem_self hi).symm⟩ (fun k d acc ρ2 hd ⟨ha, x, hx⟩ => ?_) (fun acc ρ2 ⟨ha, hx⟩ => ?_)
  · rw [List.getElem?_map] at hd
    cases e : ds[k]? with
    | none => rw [e] at hd; cases hd
    | some z =>
      rw [e] at hd
      cases hd
      refine ⟨_, rfl, ?_⟩
      rw [hp z ρ2 ⟨x, hx⟩, sat_ok]
      have tk : ds.take (k + 1) = ds.take k ++ [z] := by
        rw [List.take_succ, e]
        rfl
      have hset : ρ2.set i (.str z) = ρ.set i (.str z) := by rw [hx, List.set_set]
      cases hpz : p z with
      | false =>
        rw [if_neg (by simp), tk, List.filter_append, List.filter_cons_of_neg (by simp [hpz])]
        exact ⟨by simpa using ha, _, hset⟩
      | true =>
        rw [if_pos rfl, eVar_r, sat_ok]
        refine ⟨?_, ?_, _, hset⟩
        · rw [ha, List.length_map]
          refine size_lt (Nat.le_trans (List.length_filter_le ..) ?_)
          rw [List.length_take]
          omega
        · rw [tk, List.filter_append, List.filter_cons_of_pos hpz, List.map_append, ha, hset]
          rw [getD_of (d := .str z) (List.getElem?_set_self hi)]
          rfl
  · rw [List.length_map, List.take_length] at ha
    exact ⟨ha, hx⟩
theorem unlike_sat (n : Int) (m : Nat) (hm : m ≤ 6) (pool : List Str) (hp : pool ≠ []) (hl : pool.length ≤ 1000) (ok : ∀ z ∈ pool, NameOk z) : (mkF false 8 3 unlikeB [.int n, .int m, .lst (pool.map D.str)]).sat fun d _ => ∃ ws : List Str, d = .lst (ws.map D.str) ∧ ws.length = m ∧ ws.Nodup ∧ ∀ z ∈ ws, NameOk z := by
  refine mkF_sat ?_
  unfold unlikeB
  simp [rg1_r (small_63 (show m ≤ 10000 by omega))]
  have pl : 0 < pool.length := List.length_pos_iff.mpr hp
  refine forUp_sat (fun k ρ => ∃ (ws : List Str) (a b c d : D), ρ = [.int n, .int m, .lst (pool.map D.str), .lst (ws.map D.str), a, b, c, d] ∧ ws.length = k ∧ ws.Nodup ∧ ∀ z ∈ ws, NameOk z) ⟨[], _, _, _, _, rfl, rfl, .nil, fun _ h => (List.not_mem_nil h).elim⟩ (fun k ρ hk ⟨ws, a, b, c, d, e, hw, nd, hok⟩ => ?_) (fun ρ ⟨ws, a, b, c, d, e, hw, nd, hok⟩ => ?_)
  · subst e
    have m5 : dMul (.int 5) (.int (k : Int)) = some (.int (5 * k)) := dMul_r (mulOk_l (by constructor <;> decide))
    have ix := dIx_strs (ds := pool) (i := n / (5 * (k : Int) + 1) % (pool.length : Int)) (Int.emod_nonneg _ (by omega)) (Int.emod_lt_of_pos _ (by omega))
    have hin : ∀ z, dIn false (.str z) (.lst (ws.map D.str)) = some (.bl (decide (z ∈ ws))) := fun z => dIn_strL false z ws
    have hnin : ∀ z, dIn true (.str z) (.lst (ws.map D.str)) = some (.bl (!decide (z ∈ ws))) := fun z => dIn_strL true z ws
    have mem : pool.getD (n / (5 * (k : Int) + 1) % (pool.length : Int)).toNat "" ∈ pool := by
      have h1 := Int.emod_nonneg (n / (5 * (k : Int) + 1)) (show (pool.length : Int) ≠ 0 by omega)
      have h2 := Int.emod_lt_of_pos (n / (5 * (k : Int) + 1)) (show (0 : Int) < pool.length by omega)
      have h3 : (n / (5 * (k : Int) + 1) % (pool.length : Int)).toNat < pool.length := by omega
      rw [List.getD_eq_getElem?_getD, List.getElem?_eq_getElem h3]
      exact List.getElem_mem h3
    have hs : (ws.map D.str).length < sizeLine := by
      rw [List.length_map]
      exact size_lt (by omega)
    have fin : ∀ z, NameOk z → z ∉ ws → ∃ ws' : List Str, ws.map D.str ++ [D.str z] = ws'.map D.str ∧ ws'.length = k + 1 ∧ ws'.Nodup ∧ ∀ z ∈ ws', NameOk z := fun z h1 h2 => by
      refine ⟨ws ++ [z], by rw [List.map_append]; rfl, by rw [List.length_append, hw]; rfl, ?_, fun y hy => ?_⟩
      · rw [List.nodup_append]
        exact ⟨nd, by simp, fun x hx y hy => by rw [List.mem_singleton.mp hy]; exact fun q => h2 (q ▸ hx)⟩
      · rcases List.mem_append.mp hy with q | q
        · exact hok y q
        · rw [List.mem_singleton.mp q]; exact h1
    rw [List.getD_eq_getElem?_getD] at ix mem
    simp [m5, div_r n (5 * (k : Int) + 1) (by omega) (by omega), mod_r _ (pool.length : Int) (by omega), ix, hin]
    generalize pool[(n / (5 * (k : Int) + 1) % (pool.length : Int)).toNat]?.getD ("" : Str) = z at mem
    split
    · rename_i hz
      have lc := lc_strs (tp := .nm 7) (ψ := eT (eBin (dIn true) (.v .im) (eVar 7) (.s 3) eSl)) (i := 7) (p := fun z => !decide (z ∈ ws)) (ρ := [.int n, .int m, .lst (pool.map D.str), .lst (ws.map D.str), .int k, .str z, .lst (spare.map D.str), d]) spare rfl (fun y ρ' ⟨x, hx⟩ => by
        subst hx
        simp [hnin]) (by decide) (by simp)
      refine lc.mono fun acc ρ2 ⟨hacc, x, hx⟩ => ?_
      subst hacc hx
      have cnt := filter_many ws spare (by decide)
      have pos : 0 < (spare.filter fun y => !decide (y ∈ ws)).length := by
        have e : (spare.filter fun y => decide (y ∉ ws)) = spare.filter fun y => !decide (y ∈ ws) := by
          congr 1
          funext y
          simp
        rw [e, hw] at cnt
        have : spare.length = 6 := by decide
        omega
      have ix0 := dIx_strs (ds := spare.filter fun y => !decide (y ∈ ws)) (i := 0) (by omega) (by omega)
      have mem0 : (spare.filter fun y => !decide (y ∈ ws)).getD (0 : Int).toNat "" ∈ spare.filter fun y => !decide (y ∈ ws) := by
        rw [List.getD_eq_getElem?_getD, show (0 : Int).toNat = 0 from rfl, List.getElem?_eq_getElem pos]
        exact List.getElem_mem pos
      generalize (spare.filter fun y => !decide (y ∈ ws)).getD (0 : Int).toNat "" = y at ix0 mem0
      have hy := List.mem_filter.mp mem0
      simp [fApp_r hs]
      exact ⟨_, ix0, fin y (spare_ok y hy.1) (by simpa using hy.2)⟩
    · rename_i hz
      simp [fApp_r hs]
      exact fin z (ok z mem) hz
  · subst e
    simp
    exact ⟨ws, rfl, hw, nd, hok⟩
/-! terms -/
def tNum (i : Int) : D := .tup [.str "number", .int i]
def tName (x : Str) : D := .tup [.str "name", .str x]
def tStop (x : Str) : D := .tup [.str "stop", .str x]
def tShape (s : Str) (as : List D) : D := .tup [.str "shape", .str s, .tup as]
def tDoes (o : Str) (a b : D) : D := .tup [.str "does", .str o, a, b]
def tFun (x : Str) (a : D) : D := .tup [.str "fun", .str x, a]
def tApp (a b : D) : D := .tup [.str "call", a, b]
def tFirst (a b : D) : D := .tup [.str "first", a, b]
def tLet (bs : List (Str × D)) (a : D) : D := .tup [.str "let", .tup (bs.map fun b => .tup [.str b.1, b.2]), a]
def tChoose (a : D) (bs : List (Str × List Str × D)) : D := .tup [.str "choose", a, .tup (bs.map fun b => .tup [.str b.1, .tup (b.2.1.map D.str), b.2.2])]
/-- a step of rows: a when, or a name's -/
inductive Step where
  | when (a : D) | bind (w x : Str) (a : D)
def Step.d : Step → D
  | .when a => .tup [.str "when", a]
  | .bind w x a => .tup [.str w, .str x, a]
def Step.t : Step → D
  | .when a => a
  | .bind _ _ a => a
def Step.ok : Step → Prop
  | .when _ => True
  | .bind w x _ => (w = "in" ∨ w = "be") ∧ NameOk x
def tRows (a : D) (ss : List Step) : D := .tup [.str "rows", a, .tup (ss.map Step.d)]
/-- a term of one part -/
inductive Leaf : D → Prop where
  | num {i : Int} (h : 0 ≤ i ∧ i < 1000000000000000000) : Leaf (tNum i)
  | shape {s : Str} (h : s = "Nil" ∨ s = "No" ∨ s = "Yes") : Leaf (tShape s [])
  | stop {x : Str} (h : NameOk x) : Leaf (tStop x)
  | name {x : Str} (h : NameOk x) : Leaf (tName x)
theorem pool_at {pool : List Str} (hp : pool ≠ []) (ok : ∀ z ∈ pool, NameOk z) (x : Int) : ∃ z, dIx (.lst (pool.map D.str)) (.int (x % (pool.length : Int))) = some (.str z) ∧ z ∈ pool := by
  have pl : 0 < pool.length := List.length_pos_iff.mpr hp
  have h1 := Int.emod_nonneg x (show (pool.length : Int) ≠ 0 by omega)
  have h2 := Int.emod_lt_of_pos x (show (0 : Int) < pool.length by omega)
  refine ⟨_, dIx_strs h1 h2, ?_⟩
  have h3 : (x % (pool.length : Int)).toNat < pool.length := by omega
  rw [List.getD_eq_getElem?_getD, List.getElem?_eq_getElem h3]
  exact List.getElem_mem h3
theorem leaf_sat (n : Int) (pool : List Str) (hp : pool ≠ []) (ok : ∀ z ∈ pool, NameOk z) : (mkF false 2 2 leafB [.int n, .lst (pool.map D.str)]).sat fun d _ => Leaf d := by
  refine mkF_sat ?_
  unfold leafB
  have pl : 0 < pool.length := List.length_pos_iff.mpr hp
  have mp : ∀ x : Int, dMod (.int x) (.int (pool.length : Int)) = some (.int (x % (pool.length : Int))) := fun x => mod_r _ _ (by omega)
  obtain ⟨z1, e1, m1⟩ := pool_at hp ok (n / 16)
  obtain ⟨z2, e2, m2⟩ := pool_at hp ok (n / 4)
  have mu : dMul (.int n) (.int 982451653) = some (.int (n * 982451653)) := dMul_r (mulOk_r (by constructor <;> decide))
  have i2 : ∀ (a b x : Int), dIx (.lst [.int a, .int b]) (.int (x % 2)) = some (.int (if x % 2 = 0 then a else b)) := fun a b x => by
    have h : x % 2 = 0 ∨ x % 2 = 1 := by omega
    rcases h with h | h <;> rw [h]
    · exact atI_0 _ _
    · exact atI_1 _ _ _
  obtain ⟨z3, e3, m3⟩ : ∃ z, dIx (.lst [.str "Nil", .str "No", .str "Yes"]) (.int (n / 4 % 3)) = some (.str z) ∧ (z = "Nil" ∨ z = "No" ∨ z = "Yes") := by
    have h : n / 4 % 3 = 0 ∨ n / 4 % 3 = 1 ∨ n / 4 % 3 = 2 := by omega
    rcases h with h | h | h <;> rw [h]
    · exact ⟨_, atI_0 _ _, .inl rfl⟩
    · exact ⟨_, atI_1 _ _ _, .inr (.inl rfl)⟩
    · exact ⟨_, atI_2 _ _ _ _, .inr (.inr rfl)⟩
  simp [mod_r _ 4 (by decide), mod_r _ 16 (by decide), mod_r _ 10 (by decide), mod_r _ 2 (by decide), mod_r _ 3 (by decide), mod_r _ 1000000000000000000 (by decide), div_r n 4 (by decide) (by decide), div_r n 40 (by decide) (by decide), div_r n 16 (by decide) (by decide), mp, mu, ten18]
  split
  · refine ⟨_, i2 _ _ _, .num ?_⟩
    split <;> omega
  · split
    · exact ⟨_, e3, .shape m3⟩
    · split
      · exact ⟨_, e1, .stop (ok _ m1)⟩
      · exact ⟨_, e2, .name (ok _ m2)⟩
/-- the ways of a choose -/
inductive Chosen : List (Str × List Str × D) → Prop where
  | cons {a b : D} {ws : List Str} (h : ws.length = 2) (nd : ws.Nodup) (ok : ∀ z ∈ ws, NameOk z) : Chosen [("Nil", [], a), ("Cons", ws, b)]
  | yes {a b : D} : Chosen [("No", [], a), ("Yes", [], b)]
  | pair {a : D} {ws : List Str} (h : ws.length = 2) (nd : ws.Nodup) (ok : ∀ z ∈ ws, NameOk z) : Chosen [("Pair", ws, a)]
/-- how a term is put together of some -/
inductive Joined : Int → List D → D → Prop where
  | does {o : Str} {a b : D} (h : o ∈ (["+", "-", "*", "<", "="] : List Str)) : Joined 1 [a, b] (tDoes o a b)
  | fn {x : Str} {a : D} {r : List D} (h : NameOk x) : Joined 2 (a :: r) (tFun x a)
  | call {a b : D} : Joined 3 [a, b] (tApp a b)
  | lets {bs : List (Str × D)} {a : D} (nd : (bs.map (·.1)).Nodup) (h : ∀ b ∈ bs, NameOk b.1) (h0 : bs ≠ []) : Joined 4 (bs.map (·.2) ++ [a]) (tLet bs a)
  | shape {s : Str} {a b : D} (h : s = "Cons" ∨ s = "Pair") : Joined 5 [a, b] (tShape s [a, b])
  | choose {a : D} {bs : List (Str × List Str × D)} (h : Chosen bs) : Joined 6 (a :: bs.map (·.2.2)) (tChoose a bs)
  | first {a b : D} : Joined 7 [a, b] (tFirst a b)
  | rows {a : D} {ss : List Step} (h : ∀ s ∈ ss, s.ok) : Joined 8 (a :: ss.map Step.t) (tRows a ss)
theorem chosen_sat (f : List D → R D) (hf : ∀ (n : Int) (m : Nat) (pool : List Str), m ≤ 6 → pool ≠ [] → pool.length ≤ 1000 → (∀ z ∈ pool, NameOk z) → (f [.int n, .int m, .lst (pool.map D.str)]).sat fun d _ => ∃ ws : List Str, d = .lst (ws.map D.str) ∧ ws.length = m ∧ ws.Nodup ∧ ∀ z ∈ ws, NameOk z)
    (n : Int) (a b c : D) (r : List D) (hr : (n % 3 = 2 ∧ r = [a, b]) ∨ (n % 3 ≠ 2 ∧ r = [a, b, c])) (pool : List Str) (hp : pool ≠ []) (hl : pool.length ≤ 1000) (ok : ∀ z ∈ pool, NameOk z) :
    (mkF false 3 3 (chosenB f) [.int n, .lst r, .lst (pool.map D.str)]).sat fun d _ => ∃ bs : List (Str × List Str × D), d = .tup (bs.map fun b => .tup [.str b.1, .tup (b.2.1.map D.str), b.2.2]) ∧ Chosen bs ∧ r = a :: bs.map (·.2.2) := by
  refine mkF_sat ?_
  unfold chosenB
  have call := hf (n / 3) 2 pool (by decide) hp hl ok
  have h3 : n % 3 = 0 ∨ n % 3 = 1 ∨ n % 3 = 2 := by omega
  rcases hr with ⟨h, rfl⟩ | ⟨h, rfl⟩
  · simp [mod_r _ 3 (by decide), div_r n 3 (by decide) (by decide), h]
    refine call.mono fun d outs ⟨ws, hd, h2, nd, hok⟩ => ?_
    subst hd
    exact ⟨_, rfl, [("Pair", ws, b)], rfl, .pair h2 nd hok, rfl⟩
  · rcases h3 with h0 | h0 | h0
    · simp [mod_r _ 3 (by decide), div_r n 3 (by decide) (by decide), h0]
      refine call.mono fun d outs ⟨ws, hd, h2, nd, hok⟩ => ?_
      subst hd
      exact ⟨_, rfl, [("Nil", [], b), ("Cons", ws, c)], rfl, .cons h2 nd hok, rfl⟩
    · simp [mod_r _ 3 (by decide), div_r n 3 (by decide) (by decide), h0]
      exact ⟨[("No", [], b), ("Yes", [], c)], rfl, .yes, rfl⟩
    · exact absurd h0 h
theorem rows_sat (n : Int) (a : D) (r : List D) (hr : r.length ≤ 1000) (pool : List Str) (hp : pool ≠ []) (hl : pool.length ≤ 1000) (ok : ∀ z ∈ pool, NameOk z) :
    (mkF false 6 3 rowsB [.int n, .lst (a :: r), .lst (pool.map D.str)]).sat fun d _ => ∃ ss : List Step, d = tRows a ss ∧ (∀ s ∈ ss, s.ok) ∧ r = ss.map Step.t := by
  refine mkF_sat ?_
  unfold rowsB
  have pl : 0 < pool.length := List.length_pos_iff.mpr hp
  have mp : ∀ x : Int, dMod (.int x) (.int (pool.length : Int)) = some (.int (x % (pool.length : Int))) := fun x => mod_r _ _ (by omega)
  simp
  refine ⟨_, rg1_r (small_63 (by omega)), ?_⟩
  rw [Int.toNat_natCast]
  refine forUp_sat (fun k ρ => ∃ (ss : List Step) (x y : D), ρ = [.int n, .lst (a :: r), .lst (pool.map D.str), .lst (ss.map Step.d), x, y] ∧ (∀ s ∈ ss, s.ok) ∧ r.take k = ss.map Step.t) ⟨[], _, _, rfl, fun _ h => (List.not_mem_nil h).elim, by simp⟩ (fun k ρ hk ⟨ss, x, y, e, hok, ht⟩ => ?_) (fun ρ ⟨ss, x, y, e, hok, ht⟩ => ?_)
  · subst e
    have hlen : ss.length = k := by
      have := congrArg List.length ht
      rw [List.length_take, List.length_map] at this
      omega
    have hs : (ss.map Step.d).length < sizeLine := by
      rw [List.length_map]
      exact size_lt (by omega)
    have m3 : dMul (.int 3) (.int (k : Int)) = some (.int (3 * k)) := dMul_r (mulOk_l (by constructor <;> decide))
    have m7 : dMul (.int 7) (.int (k : Int)) = some (.int (7 * k)) := dMul_r (mulOk_l (by constructor <;> decide))
    have ix : atI (a :: r) (1 + (k : Int)) = some r[k] := by
      rw [show (1 : Int) + (k : Int) = ((k + 1 : Nat) : Int) by omega]
      exact atI_r (by rw [List.getElem?_cons_succ, List.getElem?_eq_getElem hk])
    have tk : r.take (k + 1) = ss.map Step.t ++ [r[k]] := by rw [List.take_succ, List.getElem?_eq_getElem hk, ← ht]; rfl
    have fin : ∀ s : Step, s.ok → s.t = r[k] → ∃ ss' : List Step, ss.map Step.d ++ [s.d] = ss'.map Step.d ∧ (∀ s ∈ ss', s.ok) ∧ r.take (k + 1) = ss'.map Step.t := fun s h1 h2 => by
      refine ⟨ss ++ [s], by rw [List.map_append]; rfl, fun y hy => ?_, by rw [tk, List.map_append, ← h2]; rfl⟩
      rcases List.mem_append.mp hy with q | q
      · exact hok y q
      · rw [List.mem_singleton.mp q]; exact h1
    obtain ⟨z, ez, mz⟩ := pool_at hp ok (n / (7 * (k : Int) + 3))
    have w3 : n / (3 * (k : Int) + 1) % 3 = 0 ∨ n / (3 * (k : Int) + 1) % 3 = 1 ∨ n / (3 * (k : Int) + 1) % 3 = 2 := by omega
    have dv3 := div_r n (3 * (k : Int) + 1) (by omega) (by omega)
    have dv7 := div_r n (7 * (k : Int) + 3) (by omega) (by omega)
    rcases w3 with w | w | w
    · simp [m3, m7, dv3, dv7, mod_r _ 3 (by decide), w, ix, fApp_r hs]
      exact fin (.when r[k]) trivial rfl
    · simp [m3, m7, dv3, dv7, mod_r _ 3 (by decide), w, ix, mp, fApp_r hs]
      exact ⟨_, ez, fin (.bind "in" z r[k]) ⟨.inl rfl, ok z mz⟩ rfl⟩
    · simp [m3, m7, dv3, dv7, mod_r _ 3 (by decide), w, ix, mp, fApp_r hs]
      exact ⟨_, ez, fin (.bind "be" z r[k]) ⟨.inr rfl, ok z mz⟩ rfl⟩
  · subst e
    rw [List.take_length] at ht
    simp
    exact ⟨ss, rfl, hok, ht⟩
theorem many_sat (s n : Int) (hs : 0 ≤ s ∧ s ≤ 8) : (mkF false 2 2 manyB [.int s, .int n]).sat fun d _ => ∃ m : Nat, d = .int m ∧ (s = 0 → m = 0) ∧ (s = 1 → m = 2) ∧ (s = 2 → m = 1) ∧ (s = 3 → m = 2) ∧ (s = 4 → 2 ≤ m ∧ m ≤ 6) ∧ (s = 5 → m = 2) ∧ (s = 6 → (n % 3 = 2 ∧ m = 2) ∨ (n % 3 ≠ 2 ∧ m = 3)) ∧ (s = 7 → m = 2) ∧ (s = 8 → 1 ≤ m ∧ m ≤ 4) := by
  refine mkF_sat ?_
  unfold manyB
  have d7 := div_r n 7 (by decide) (by decide)
  have h : s = 0 ∨ s = 1 ∨ s = 2 ∨ s = 3 ∨ s = 4 ∨ s = 5 ∨ s = 6 ∨ s = 7 ∨ s = 8 := by omega
  rcases h with rfl | rfl | rfl | rfl | rfl | rfl | rfl | rfl | rfl
  · simp
  · simp
  · simp
  · simp
  · simp [d7, mod_r _ 5 (by decide)]
    exact ⟨(2 + n / 7 % 5).toNat, by omega, by omega, by omega⟩
  · simp
    exact atI_r (i := 5) rfl
  · simp [mod_r _ 3 (by decide)]
    have h3 : n % 3 = 0 ∨ n % 3 = 1 ∨ n % 3 = 2 := by omega
    rcases h3 with h | h | h <;> rw [h]
    · exact ⟨_, atI_0 _ _, 3, rfl, by simp⟩
    · exact ⟨_, atI_1 _ _ _, 3, rfl, by simp⟩
    · exact ⟨_, atI_2 _ _ _ _, 2, rfl, by simp⟩
  · simp
    exact atI_r (i := 7) rfl
  · simp [d7, mod_r _ 4 (by decide)]
    exact ⟨(1 + n / 7 % 4).toNat, by omega, by omega, by omega⟩
def JoinArgs (s n : Int) (l : List D) : Prop := (s = 1 ∧ l.length = 2) ∨ (s = 2 ∧ 1 ≤ l.length) ∨ (s = 3 ∧ l.length = 2) ∨ (s = 4 ∧ 2 ≤ l.length ∧ l.length ≤ 6) ∨ (s = 5 ∧ l.length = 2) ∨ (s = 6 ∧ ((n % 3 = 2 ∧ l.length = 2) ∨ (n % 3 ≠ 2 ∧ l.length = 3))) ∨ (s = 7 ∧ l.length = 2) ∨ (s = 8 ∧ 1 ≤ l.length ∧ l.length ≤ 4)
theorem len1 {α : Type} {l : List α} (h : 1 ≤ l.length) : ∃ a r, l = a :: r := by
  cases l with
  | nil => simp at h
  | cons a r => exact ⟨a, r, rfl⟩
theorem len2 {α : Type} {l : List α} (h : l.length = 2) : ∃ a b, l = [a, b] := by
  match l, h with
  | [a, b], _ => exact ⟨a, b, rfl⟩
theorem len3 {α : Type} {l : List α} (h : l.length = 3) : ∃ a b c, l = [a, b, c] := by
  match l, h with
  | [a, b, c], _ => exact ⟨a, b, c, rfl⟩
theorem atI_last {α : Type} (l : List α) (a : α) : atI (l ++ [a]) (-1) = some a := by
  unfold L2.atI ixN
  rw [if_neg (by omega), if_pos (by rw [List.length_append, List.length_singleton]; omega)]
  show (l ++ [a])[_]? = _
  rw [show ((-1 : Int) + ((l ++ [a]).length : Int)).toNat = l.length by rw [List.length_append, List.length_singleton]; omega]
  simp
theorem joined_sat (fu fc fr : List D → R D) (n : Int) (pool : List Str) (hp : pool ≠ []) (hl : pool.length ≤ 1000) (ok : ∀ z ∈ pool, NameOk z)
    (hu : ∀ m : Nat, m ≤ 6 → (fu [.int n, .int m, .lst (pool.map D.str)]).sat fun d _ => ∃ ws : List Str, d = .lst (ws.map D.str) ∧ ws.length = m ∧ ws.Nodup ∧ ∀ z ∈ ws, NameOk z)
    (hc : ∀ (a b c : D) (r : List D), (n % 3 = 2 ∧ r = [a, b]) ∨ (n % 3 ≠ 2 ∧ r = [a, b, c]) → (fc [.int n, .lst r, .lst (pool.map D.str)]).sat fun d _ => ∃ bs : List (Str × List Str × D), d = .tup (bs.map fun b => .tup [.str b.1, .tup (b.2.1.map D.str), b.2.2]) ∧ Chosen bs ∧ r = a :: bs.map (·.2.2))
    (hr : ∀ (a : D) (r : List D), r.length ≤ 1000 → (fr [.int n, .lst (a :: r), .lst (pool.map D.str)]).sat fun d _ => ∃ ss : List Step, d = tRows a ss ∧ (∀ s ∈ ss, s.ok) ∧ r = ss.map Step.t)
    (s : Int) (l : List D) (hj : JoinArgs s n l) : (mkF false 6 4 (joinedB fu fc fr) [.int s, .int n, .lst l, .lst (pool.map D.str)]).sat fun d _ => Joined s l d := by
  refine mkF_sat ?_
  unfold joinedB
  have pl : 0 < pool.length := List.length_pos_iff.mpr hp
  have mp : ∀ x : Int, dMod (.int x) (.int (pool.length : Int)) = some (.int (x % (pool.length : Int))) := fun x => mod_r _ _ (by omega)
  rcases hj with ⟨rfl, h⟩ | ⟨rfl, h⟩ | ⟨rfl, h⟩ | ⟨rfl, h, h6⟩ | ⟨rfl, h⟩ | ⟨rfl, h⟩ | ⟨rfl, h⟩ | ⟨rfl, h, h4⟩
  · obtain ⟨a, b, rfl⟩ := len2 h
    obtain ⟨o, eo, ho⟩ : ∃ o, dIx (.str "+-*<=") (.int (n % 5)) = some (.str o) ∧ o ∈ (["+", "-", "*", "<", "="] : List Str) := by
      refine ⟨_, dIx_sign (by decide) (by omega) (by rw [show ("+-*<=" : Str).cps.size = 5 by decide]; omega), ?_⟩
      have : ∀ k : Fin 5, (⟨#[("+-*<=" : Str).cps.getD k.1 0]⟩ : Str) ∈ (["+", "-", "*", "<", "="] : List Str) := by decide +kernel
      exact this ⟨(n % 5).toNat, by omega⟩
    simp [mod_r _ 5 (by decide), eo]
    exact .does ho
  · obtain ⟨a, r, rfl⟩ := len1 h
    obtain ⟨z, ez, mz⟩ := pool_at hp ok n
    simp [mp]
    exact ⟨_, ez, .fn (ok z mz)⟩
  · obtain ⟨a, b, rfl⟩ := len2 h
    simp
    exact .call
  · obtain ⟨l', a, rfl⟩ : ∃ l' a, l = l' ++ [a] := ⟨l.dropLast, l.getLast (by intro e; rw [e] at h; simp at h), (List.dropLast_concat_getLast _).symm⟩
    rw [List.length_append, List.length_singleton] at h h6
    have call := hu l'.length (by omega)
    simp
    refine call.mono fun d outs ⟨ws, hd, hw, nd, hok⟩ => ?_
    subst hd
    simp
    refine ⟨_, rg1_r (small_63 (by omega)), ?_⟩
    rw [Int.toNat_natCast]
    have l1 : (ws.zip l').map (·.1) = ws := List.map_fst_zip (by omega)
    have l2 : (ws.zip l').map (·.2) = l' := List.map_snd_zip (by omega)
    have lz : (ws.zip l').length = ws.length := by rw [List.length_zip]; omega
    refine lc_sat _ _ _ (fun k acc ρ => acc = ((ws.zip l').take k).map (fun b => D.tup [.str b.1, b.2]) ∧ ∃ x, ρ = [.int 4, .int n, .lst (l' ++ [a]), .lst (pool.map D.str), .lst (ws.map D.str), x]) ⟨rfl, _, rfl⟩ (fun k d acc ρ hd ⟨ha, x, e⟩ => ?_) (fun acc ρ ⟨ha, x, e⟩ => ?_)
    · have hk : k < ws.length := by
        have := (List.getElem?_eq_some_iff.mp hd).1
        simpa [up] using this
      have hk2 : k < l'.length := by omega
      rw [up_at hk] at hd
      cases hd
      subst e
      have i1 : atI (ws.map D.str) (k : Int) = some (.str ws[k]) := atI_r (by rw [List.getElem?_map, List.getElem?_eq_getElem hk]; rfl)
      have i2 : atI (l' ++ [a]) (k : Int) = some l'[k] := atI_r (by rw [List.getElem?_append_left hk2, List.getElem?_eq_getElem hk2])
      refine ⟨_, rfl, ?_⟩
      simp [i1, i2]
      rw [ha]
      refine ⟨?_, ?_⟩
      · rw [List.length_map, List.length_take]
        exact size_lt (by omega)
      · rw [List.take_succ, List.getElem?_map, List.getElem?_zip_eq_some (z := (ws[k], l'[k])) |>.mpr ⟨List.getElem?_eq_getElem hk, List.getElem?_eq_getElem hk2⟩, List.map_take]
        rfl
    · subst e
      have hu' : (up 0 ws.length).length = ws.length := by simp [up]
      rw [hu', ← lz, List.take_length] at ha
      subst ha
      simp
      refine ⟨_, atI_last l' a, ?_⟩
      have j := Joined.lets (bs := ws.zip l') (a := a) (by rw [l1]; exact nd) (fun b hb => hok b.1 (List.of_mem_zip (a := b.1) (b := b.2) hb).1) (fun e => by
        have : (ws.zip l').length = 0 := by rw [e]; rfl
        omega)
      rw [l2] at j
      exact j
  · obtain ⟨a, b, rfl⟩ := len2 h
    have h2 : n % 2 = 0 ∨ n % 2 = 1 := by omega
    rcases h2 with e | e
    · simp [mod_r _ 2 (by decide), e]
      exact .shape (.inl rfl)
    · simp [mod_r _ 2 (by decide), e]
      exact .shape (.inr rfl)
  · obtain ⟨a, r, rfl⟩ := len1 (l := l) (by omega)
    simp
    rcases h with ⟨h1, h2⟩ | ⟨h1, h2⟩
    · obtain ⟨b, rfl⟩ := List.length_eq_one_iff.mp (by simpa using h2)
      refine (hc a b b [a, b] (.inl ⟨h1, rfl⟩)).mono fun d _ ⟨bs, hd, hb, e⟩ => ?_
      subst hd
      rw [e]
      exact .choose hb
    · obtain ⟨b, c, rfl⟩ := len2 (l := r) (by simpa using h2)
      refine (hc a b c [a, b, c] (.inr ⟨h1, rfl⟩)).mono fun d _ ⟨bs, hd, hb, e⟩ => ?_
      subst hd
      rw [e]
      exact .choose hb
  · obtain ⟨a, b, rfl⟩ := len2 h
    simp
    exact .first
  · obtain ⟨a, r, rfl⟩ := len1 h
    simp
    refine (hr a r (by rw [List.length_cons] at h4; omega)).mono fun d _ ⟨ss, hd, hs, e⟩ => ?_
    subst hd e
    exact .rows hs
end VL
/-! VL23: how deep terms are. -/
namespace VL
open PySem L2
/-- immutable, no deeper than n -/
structure Sm (n : Nat) (d : D) : Prop where
  imm : d.imm = true
  dep : d.py.depth ≤ n
theorem depthL {n : Nat} : ∀ {ds : List D}, (∀ x ∈ ds, x.py.depth ≤ n) → PyData.depthAll (D.pyL ds) ≤ n
  | [], _ => Nat.zero_le _
  | d :: ds, h => by
    have h1 := h d List.mem_cons_self
    have h2 := depthL (ds := ds) fun x hx => h x (List.mem_cons_of_mem _ hx)
    show max d.py.depth (PyData.depthAll (D.pyL ds)) ≤ n
    omega
theorem Sm.tup {n : Nat} {ds : List D} (h : ∀ x ∈ ds, Sm n x) : Sm (n + 1) (.tup ds) := ⟨immL_of fun d hd => (h d hd).imm, by
  have := depthL (ds := ds) fun x hx => (h x hx).dep
  show PyData.depthAll (D.pyL ds) + 1 ≤ n + 1
  omega⟩
theorem Sm.str (n : Nat) (z : Str) : Sm n (.str z) := ⟨rfl, Nat.zero_le _⟩
theorem Sm.int (n : Nat) (i : Int) : Sm n (.int i) := ⟨rfl, Nat.zero_le _⟩
theorem Sm.mono {n m : Nat} {d : D} (h : Sm n d) (l : n ≤ m) : Sm m d := ⟨h.imm, Nat.le_trans h.dep l⟩
theorem Leaf.sm {d : D} (h : Leaf d) : Sm 2 d := by
  have two : ∀ a b : D, Sm 1 a → Sm 1 b → Sm 2 (.tup [a, b]) := fun a b ha hb => .tup fun x hx => by
    simp only [List.mem_cons, List.not_mem_nil, or_false] at hx
    rcases hx with rfl | rfl
    · exact ha
    · exact hb
  cases h with
  | num h => exact two _ _ (.str ..) (.int ..)
  | stop h => exact two _ _ (.str ..) (.str ..)
  | name h => exact two _ _ (.str ..) (.str ..)
  | shape h =>
    refine .tup fun x hx => ?_
    simp only [List.mem_cons, List.not_mem_nil, or_false] at hx
    rcases hx with rfl | rfl | rfl
    · exact .str ..
    · exact .str ..
    · exact .tup fun x hx => (List.not_mem_nil hx).elim
theorem Joined.sm {s : Int} {l : List D} {d : D} (h : Joined s l d) {n : Nat} (hn : 1 ≤ n) (hl : ∀ x ∈ l, Sm n x) : Sm (n + 3) d := by
  have up : ∀ {m : Nat} {x : D}, Sm m x → m ≤ n + 2 → Sm (n + 2) x := fun h l => h.mono l
  cases h with
  | does h =>
    refine .tup fun x hx => ?_
    simp only [List.mem_cons, List.not_mem_nil, or_false] at hx
    rcases hx with rfl | rfl | rfl | rfl
    · exact .str ..
    · exact .str ..
    · exact up (hl _ (by simp)) (by omega)
    · exact up (hl _ (by simp)) (by omega)
  | fn h =>
    refine .tup fun x hx => ?_
    simp only [List.mem_cons, List.not_mem_nil, or_false] at hx
    rcases hx with rfl | rfl | rfl
    · exact .str ..
    · exact .str ..
    · exact up (hl _ (by simp)) (by omega)
  | call =>
    refine .tup fun x hx => ?_
    simp only [List.mem_cons, List.not_mem_nil, or_false] at hx
    rcases hx with rfl | rfl | rfl
    · exact .str ..
    · exact up (hl _ (by simp)) (by omega)
    · exact up (hl _ (by simp)) (by omega)
  | first =>
    refine .tup fun x hx => ?_
    simp only [List.mem_cons, List.not_mem_nil, or_false] at hx
    rcases hx with rfl | rfl | rfl
    · exact .str ..
    · exact up (hl _ (by simp)) (by omega)
    · exact up (hl _ (by simp)) (by omega)
  | shape h =>
    refine .tup fun x hx => ?_
    simp only [List.mem_cons, List.not_mem_nil, or_false] at hx
    rcases hx with rfl | rfl | rfl
    · exact .str ..
    · exact .str ..
    · exact up (.tup fun y hy => hl y hy) (by omega)
  | lets nd h h0 =>
    refine .tup fun x hx => ?_
    simp only [List.mem_cons, List.not_mem_nil, or_false] at hx
    rcases hx with rfl | rfl | rfl
    · exact .str ..
    · refine .tup fun y hy => ?_
      obtain ⟨b, hb, rfl⟩ := List.mem_map.mp hy
      refine .tup fun z hz => ?_
      simp only [List.mem_cons, List.not_mem_nil, or_false] at hz
      rcases hz with rfl | rfl
      · exact .str ..
      · exact hl _ (List.mem_append_left _ (List.mem_map.mpr ⟨b, hb, rfl⟩))
    · exact up (hl _ (by simp)) (by omega)
  | choose h =>
    refine .tup fun x hx => ?_
    simp only [List.mem_cons, List.not_mem_nil, or_false] at hx
    rcases hx with rfl | rfl | rfl
    · exact .str ..
    · exact up (hl _ (by simp)) (by omega)
    · refine .tup fun y hy => ?_
      obtain ⟨b, hb, rfl⟩ := List.mem_map.mp hy
      refine .tup fun z hz => ?_
      simp only [List.mem_cons, List.not_mem_nil, or_false] at hz
      rcases hz with rfl | rfl | rfl
      · exact .str ..
      · refine Sm.mono (n := 0 + 1) (.tup fun w hw => ?_) hn
        obtain ⟨v, _, rfl⟩ := List.mem_map.mp hw
        exact .str ..
      · exact hl _ (List.mem_cons_of_mem _ (List.mem_map.mpr ⟨b, hb, rfl⟩))
  | rows h =>
    refine .tup fun x hx => ?_
    simp only [List.mem_cons, List.not_mem_nil, or_false] at hx
    rcases hx with rfl | rfl | rfl
    · exact .str ..
    · exact up (hl _ (by simp)) (by omega)
    · refine .tup fun y hy => ?_
      obtain ⟨b, hb, rfl⟩ := List.mem_map.mp hy
      have hbt := hl b.t (List.mem_cons_of_mem _ (List.mem_map.mpr ⟨b, hb, rfl⟩))
      cases b with
      | when a =>
        refine .tup fun z hz => ?_
        simp only [List.mem_cons, List.not_mem_nil, or_false] at hz
        rcases hz with rfl | rfl
        · exact .str ..
        · exact hbt
      | bind w x a =>
        refine .tup fun z hz => ?_
        simp only [List.mem_cons, List.not_mem_nil, or_false] at hz
        rcases hz with rfl | rfl | rfl
        · exact .str ..
        · exact .str ..
        · exact hbt
theorem plainL_of {n : Nat} {l : List D} (h : ∀ x ∈ l, Sm n x) : (D.lst l).py.plain = true := plainL_imm l (immL_of fun d hd => (h d hd).imm)
theorem dep_lst {n : Nat} {l : List D} (h : ∀ x ∈ l, Sm n x) : (D.lst l).py.depth ≤ n + 1 := by
  have := depthL (ds := l) fun x hx => (h x hx).dep
  show PyData.depthAll (D.pyL l) + 1 ≤ n + 1
  omega
theorem dEq_lst {n : Nat} {l : List D} (h : ∀ x ∈ l, Sm n x) (hn : n < 150) : dEq (.lst l) (.lst l) = some (.bl true) := dEq_self (plainL_of h) (Nat.le_trans (dep_lst h) hn)
theorem dNe_self {d : D} (h : d.py.plain = true) (h2 : d.py.depth ≤ 150) : dNe d d = some (.bl false) := by
  rw [dNe_of (by unfold D.flatOk; rw [h, Bool.true_and, Bool.true_and, decide_eq_true_iff, Nat.min_self]; exact h2), eqv_refl d h]
  rfl
theorem dNe_lst {n : Nat} {l : List D} (h : ∀ x ∈ l, Sm n x) (hn : n < 150) : dNe (.lst l) (.lst l) = some (.bl false) := dNe_self (plainL_of h) (Nat.le_trans (dep_lst h) hn)
end VL
/-! VL24: terms as a type. -/
namespace VL
open PySem L2
mutual
inductive Tm where
  | num (i : Int) | name (x : Str) | stop (x : Str) | bare (s : Str)
  | does (o : Str) (a b : Tm) | fn (x : Str) (a : Tm) | app (a b : Tm) | lets (bs : Bs) (a : Tm)
  | shape (s : Str) (a b : Tm) | choose (a : Tm) (cs : Cs) | first (a b : Tm) | rows (a : Tm) (ss : Ss)
inductive Bs where
  | nil | cons (x : Str) (t : Tm) (r : Bs)
inductive Cs where
  | nil | cons (s : Str) (ws : List Str) (t : Tm) (r : Cs)
inductive Ss where
  | nil | when (t : Tm) (r : Ss) | bind (w x : Str) (t : Tm) (r : Ss)
end
mutual
def Tm.d : Tm → D
  | .num i => tNum i
  | .name x => tName x
  | .stop x => tStop x
  | .bare s => tShape s []
  | .does o a b => tDoes o a.d b.d
  | .fn x a => tFun x a.d
  | .app a b => tApp a.d b.d
  | .lets bs a => .tup [.str "let", .tup bs.d, a.d]
  | .shape s a b => tShape s [a.d, b.d]
  | .choose a cs => .tup [.str "choose", a.d, .tup cs.d]
  | .first a b => tFirst a.d b.d
  | .rows a ss => .tup [.str "rows", a.d, .tup ss.d]
def Bs.d : Bs → List D
  | .nil => []
  | .cons x t r => .tup [.str x, t.d] :: r.d
def Cs.d : Cs → List D
  | .nil => []
  | .cons s ws t r => .tup [.str s, .tup (ws.map D.str), t.d] :: r.d
def Ss.d : Ss → List D
  | .nil => []
  | .when t r => .tup [.str "when", t.d] :: r.d
  | .bind w x t r => .tup [.str w, .str x, t.d] :: r.d
end
/-! lists of the parts -/
def Bs.of : List (Str × Tm) → Bs
  | [] => .nil
  | b :: r => .cons b.1 b.2 (Bs.of r)
def Cs.of : List (Str × List Str × Tm) → Cs
  | [] => .nil
  | b :: r => .cons b.1 b.2.1 b.2.2 (Cs.of r)
def Bs.names : Bs → List Str
  | .nil => []
  | .cons x _ r => x :: r.names
/-- the families -/
inductive Cs.Ok : Cs → Prop where
  | cons {a b : Tm} {ws : List Str} (h : ws.length = 2) (nd : ws.Nodup) (ok : ∀ z ∈ ws, NameOk z) : Cs.Ok (.cons "Nil" [] a (.cons "Cons" ws b .nil))
  | yes {a b : Tm} : Cs.Ok (.cons "No" [] a (.cons "Yes" [] b .nil))
  | pair {a : Tm} {ws : List Str} (h : ws.length = 2) (nd : ws.Nodup) (ok : ∀ z ∈ ws, NameOk z) : Cs.Ok (.cons "Pair" ws a .nil)
mutual
/-- written as a term is to be -/
def Tm.ok : Tm → Prop
  | .num i => 0 ≤ i ∧ i < 1000000000000000000
  | .name x => NameOk x
  | .stop x => NameOk x
  | .bare s => s = "Nil" ∨ s = "No" ∨ s = "Yes"
  | .does o a b => o ∈ (["+", "-", "*", "<", "="] : List Str) ∧ a.ok ∧ b.ok
  | .fn x a => NameOk x ∧ a.ok
  | .app a b => a.ok ∧ b.ok
  | .lets bs a => bs.names.Nodup ∧ bs.names ≠ [] ∧ bs.ok ∧ a.ok
  | .shape s a b => (s = "Cons" ∨ s = "Pair") ∧ a.ok ∧ b.ok
  | .choose a cs => a.ok ∧ cs.Ok ∧ cs.ok
  | .first a b => a.ok ∧ b.ok
  | .rows a ss => a.ok ∧ ss.ok
def Bs.ok : Bs → Prop
  | .nil => True
  | .cons x t r => NameOk x ∧ t.ok ∧ r.ok
def Cs.ok : Cs → Prop
  | .nil => True
  | .cons _ _ t r => t.ok ∧ r.ok
def Ss.ok : Ss → Prop
  | .nil => True
  | .when t r => t.ok ∧ r.ok
  | .bind w x t r => (w = "in" ∨ w = "be") ∧ NameOk x ∧ t.ok ∧ r.ok
end
mutual
/-- how deep -/
def Tm.dp : Tm → Nat
  | .num _ => 1
  | .name _ => 1
  | .stop _ => 1
  | .bare _ => 1
  | .does _ a b => max a.dp b.dp + 1
  | .fn _ a => a.dp + 1
  | .app a b => max a.dp b.dp + 1
  | .lets bs a => max bs.dp a.dp + 1
  | .shape _ a b => max a.dp b.dp + 1
  | .choose a cs => max a.dp cs.dp + 1
  | .first a b => max a.dp b.dp + 1
  | .rows a ss => max a.dp ss.dp + 1
def Bs.dp : Bs → Nat
  | .nil => 0
  | .cons _ t r => max t.dp r.dp
def Cs.dp : Cs → Nat
  | .nil => 0
  | .cons _ _ t r => max t.dp r.dp
def Ss.dp : Ss → Nat
  | .nil => 0
  | .when t r => max t.dp r.dp
  | .bind _ _ t r => max t.dp r.dp
end
mutual
/-- how wide its text may be -/
def Tm.wd : Tm → Nat
  | .num _ => 32
  | .name _ => 32
  | .stop _ => 32
  | .bare _ => 32
  | .does _ a b => a.wd + b.wd + 32
  | .fn _ a => a.wd + 32
  | .app a b => a.wd + b.wd + 32
  | .lets bs a => bs.wd + a.wd + 32
  | .shape _ a b => a.wd + b.wd + 32
  | .choose a cs => a.wd + cs.wd + 32
  | .first a b => a.wd + b.wd + 32
  | .rows a ss => a.wd + ss.wd + 32
def Bs.wd : Bs → Nat
  | .nil => 0
  | .cons _ t r => t.wd + r.wd + 32
def Cs.wd : Cs → Nat
  | .nil => 0
  | .cons _ _ t r => t.wd + r.wd + 32
def Ss.wd : Ss → Nat
  | .nil => 0
  | .when t r => t.wd + r.wd + 32
  | .bind _ _ t r => t.wd + r.wd + 32
end
/-- a term of at most such depth and width -/
structure Is (p w : Nat) (t : Tm) : Prop where
  ok : t.ok
  dp : t.dp ≤ p
  wd : t.wd ≤ w
def Isd (p w : Nat) (d : D) : Prop := ∃ t : Tm, d = t.d ∧ Is p w t
theorem Leaf.tm {d : D} (h : Leaf d) : Isd 1 32 d := by
  cases h with
  | num h => exact ⟨.num _, rfl, h, Nat.le_refl _, Nat.le_refl _⟩
  | shape h => exact ⟨.bare _, rfl, h, Nat.le_refl _, Nat.le_refl _⟩
  | stop h => exact ⟨.stop _, rfl, h, Nat.le_refl _, Nat.le_refl _⟩
  | name h => exact ⟨.name _, rfl, h, Nat.le_refl _, Nat.le_refl _⟩
theorem Isd.mono {p q w v : Nat} {d : D} (h : Isd p w d) (hp : p ≤ q) (hw : w ≤ v) : Isd q v d := by
  obtain ⟨t, e, h1, h2, h3⟩ := h
  exact ⟨t, e, h1, by omega, by omega⟩
/-- the things of a let -/
theorem lets_tm {p w : Nat} : ∀ (bs : List (Str × D)), (∀ b ∈ bs, NameOk b.1 ∧ Isd p w b.2) → ∃ b' : Bs, (bs.map fun b => D.tup [.str b.1, b.2]) = b'.d ∧ b'.names = bs.map (·.1) ∧ b'.ok ∧ b'.dp ≤ p ∧ b'.wd ≤ bs.length * (w + 32)
  | [], _ => ⟨.nil, rfl, rfl, trivial, Nat.zero_le _, Nat.zero_le _⟩
  | b :: r, h => by
    obtain ⟨r', e, hn, h1, h2, h3⟩ := lets_tm r fun b hb => h b (List.mem_cons_of_mem _ hb)
    obtain ⟨hx, t, et, ht, hd, hw⟩ := h b List.mem_cons_self
    refine ⟨.cons b.1 t r', by rw [List.map_cons, e, et]; rfl, by rw [List.map_cons, ← hn]; rfl, ⟨hx, ht, h1⟩, ?_, ?_⟩
    · show max t.dp r'.dp ≤ p
      omega
    · show t.wd + r'.wd + 32 ≤ (r.length + 1) * (w + 32)
      rw [Nat.add_one_mul]
      omega
theorem steps_tm {p w : Nat} : ∀ (ss : List Step), (∀ s ∈ ss, s.ok ∧ Isd p w s.t) → ∃ s' : Ss, ss.map Step.d = s'.d ∧ s'.ok ∧ s'.dp ≤ p ∧ s'.wd ≤ ss.length * (w + 32)
  | [], _ => ⟨.nil, rfl, trivial, Nat.zero_le _, Nat.zero_le _⟩
  | s :: r, h => by
    obtain ⟨r', e, h1, h2, h3⟩ := steps_tm r fun b hb => h b (List.mem_cons_of_mem _ hb)
    obtain ⟨hx, t, et, ht, hd, hw⟩ := h s List.mem_cons_self
    cases s with
    | when a =>
      refine ⟨.when t r', by rw [List.map_cons, e]; rw [show a = t.d from et]; rfl, ⟨ht, h1⟩, ?_, ?_⟩
      · show max t.dp r'.dp ≤ p
        omega
      · show t.wd + r'.wd + 32 ≤ (r.length + 1) * (w + 32)
        rw [Nat.add_one_mul]
        omega
    | bind w' x a =>
      refine ⟨.bind w' x t r', by rw [List.map_cons, e]; rw [show a = t.d from et]; rfl, ⟨hx.1, hx.2, ht, h1⟩, ?_, ?_⟩
      · show max t.dp r'.dp ≤ p
        omega
      · show t.wd + r'.wd + 32 ≤ (r.length + 1) * (w + 32)
        rw [Nat.add_one_mul]
        omega
theorem Joined.tm {s : Int} {l : List D} {d : D} (h : Joined s l d) {p w : Nat} (h6 : l.length ≤ 6) (hl : ∀ x ∈ l, Isd p w x) : Isd (p + 1) (6 * w + 224) d := by
  cases h with
  | does ho =>
    obtain ⟨a, rfl, a1, a2, a3⟩ := hl _ (List.mem_cons_self)
    obtain ⟨b, rfl, b1, b2, b3⟩ := hl _ (List.mem_cons_of_mem _ List.mem_cons_self)
    exact ⟨.does _ a b, rfl, ⟨ho, a1, b1⟩, by show max a.dp b.dp + 1 ≤ _; omega, by show a.wd + b.wd + 32 ≤ _; omega⟩
  | fn hx =>
    obtain ⟨a, rfl, a1, a2, a3⟩ := hl _ (List.mem_cons_self)
    exact ⟨.fn _ a, rfl, ⟨hx, a1⟩, by show a.dp + 1 ≤ _; omega, by show a.wd + 32 ≤ _; omega⟩
  | call =>
    obtain ⟨a, rfl, a1, a2, a3⟩ := hl _ (List.mem_cons_self)
    obtain ⟨b, rfl, b1, b2, b3⟩ := hl _ (List.mem_cons_of_mem _ List.mem_cons_self)
    exact ⟨.app a b, rfl, ⟨a1, b1⟩, by show max a.dp b.dp + 1 ≤ _; omega, by show a.wd + b.wd + 32 ≤ _; omega⟩
  | first =>
    obtain ⟨a, rfl, a1, a2, a3⟩ := hl _ (List.mem_cons_self)
    obtain ⟨b, rfl, b1, b2, b3⟩ := hl _ (List.mem_cons_of_mem _ List.mem_cons_self)
    exact ⟨.first a b, rfl, ⟨a1, b1⟩, by show max a.dp b.dp + 1 ≤ _; omega, by show a.wd + b.wd + 32 ≤ _; omega⟩
  | shape hs =>
    obtain ⟨a, rfl, a1, a2, a3⟩ := hl _ (List.mem_cons_self)
    obtain ⟨b, rfl, b1, b2, b3⟩ := hl _ (List.mem_cons_of_mem _ List.mem_cons_self)
    exact ⟨.shape _ a b, rfl, ⟨hs, a1, b1⟩, by show max a.dp b.dp + 1 ≤ _; omega, by show a.wd + b.wd + 32 ≤ _; omega⟩
  | @lets bs a nd hx h0 =>
    obtain ⟨b', e, hn, b1, b2, b3⟩ := lets_tm (p := p) (w := w) bs fun b hb => ⟨hx b hb, hl _ (List.mem_append_left _ (List.mem_map.mpr ⟨b, hb, rfl⟩))⟩
    obtain ⟨a, rfl, a1, a2, a3⟩ := hl a (by simp)
    have h5 : bs.length ≤ 5 := by simpa using h6
    have hm : bs.length * (w + 32) ≤ 5 * (w + 32) := Nat.mul_le_mul_right _ h5
    refine ⟨.lets b' a, by unfold tLet; rw [e]; rfl, ⟨by rw [hn]; exact nd, by rw [hn]; simpa using h0, b1, a1⟩, ?_, ?_⟩
    · show max b'.dp a.dp + 1 ≤ _
      omega
    · show b'.wd + a.wd + 32 ≤ _
      omega
  | @choose a bs hc =>
    obtain ⟨a, rfl, a1, a2, a3⟩ := hl a List.mem_cons_self
    cases hc with
    | @cons x y ws g1 g2 g3 =>
      obtain ⟨x, rfl, x1, x2, x3⟩ := hl x (by simp)
      obtain ⟨y, rfl, y1, y2, y3⟩ := hl y (by simp)
      exact ⟨.choose a (.cons "Nil" [] x (.cons "Cons" ws y .nil)), rfl, ⟨a1, .cons g1 g2 g3, x1, y1, trivial⟩, by show max a.dp (max x.dp (max y.dp 0)) + 1 ≤ _; omega, by show a.wd + (x.wd + (y.wd + 0 + 32) + 32) + 32 ≤ _; omega⟩
    | @yes x y =>
      obtain ⟨x, rfl, x1, x2, x3⟩ := hl x (by simp)
      obtain ⟨y, rfl, y1, y2, y3⟩ := hl y (by simp)
      exact ⟨.choose a (.cons "No" [] x (.cons "Yes" [] y .nil)), rfl, ⟨a1, .yes, x1, y1, trivial⟩, by show max a.dp (max x.dp (max y.dp 0)) + 1 ≤ _; omega, by show a.wd + (x.wd + (y.wd + 0 + 32) + 32) + 32 ≤ _; omega⟩
    | @pair x ws g1 g2 g3 =>
      obtain ⟨x, rfl, x1, x2, x3⟩ := hl x (by simp)
      exact ⟨.choose a (.cons "Pair" ws x .nil), rfl, ⟨a1, .pair g1 g2 g3, x1, trivial⟩, by show max a.dp (max x.dp 0) + 1 ≤ _; omega, by show a.wd + (x.wd + 0 + 32) + 32 ≤ _; omega⟩
  | @rows a ss hs =>
    obtain ⟨s', e, b1, b2, b3⟩ := steps_tm (p := p) (w := w) ss fun b hb => ⟨hs b hb, hl _ (List.mem_cons_of_mem _ (List.mem_map.mpr ⟨b, hb, rfl⟩))⟩
    obtain ⟨a, rfl, a1, a2, a3⟩ := hl a List.mem_cons_self
    have h5 : ss.length ≤ 5 := by simpa using h6
    have hm : ss.length * (w + 32) ≤ 5 * (w + 32) := Nat.mul_le_mul_right _ h5
    refine ⟨.rows a s', by unfold tRows; rw [e]; rfl, ⟨a1, b1⟩, ?_, ?_⟩
    · show max a.dp s'.dp + 1 ≤ _
      omega
    · show a.wd + s'.wd + 32 ≤ _
      omega
end VL
/-! VL25: terms as texts and as words. -/
namespace VL
open PySem L2
theorem cps_num {i : Int} (h : 0 ≤ i) : (toString i : Str).cps.toList = (Nat.toDigits 10 i.toNat).map Char.toNat := by
  obtain ⟨n, rfl⟩ := Int.eq_ofNat_of_zero_le h
  show (Str.ofString (toString (n : Int))).cps.toList = _
  rw [show toString (n : Int) = toString n from rfl, Nat.toString_eq_ofList_toDigits, Str.ofString_eq_toList, Int.toNat_natCast]
  simp
theorem num_fig {i : Int} (h : 0 ≤ i) : ∀ c ∈ (toString i : Str).cps.toList, 48 ≤ c ∧ c ≤ 57 := fun c hc => by
  rw [cps_num h] at hc
  obtain ⟨x, hx, rfl⟩ := List.mem_map.mp hc
  have d := Nat.isDigit_of_mem_toDigits (by decide) (by decide) hx
  simp [Char.isDigit] at d
  exact ⟨d.1, d.2⟩
theorem num_ne {i : Int} (h : 0 ≤ i) : (toString i : Str).cps.toList ≠ [] := by
  rw [cps_num h]
  simp
theorem num_len {i : Int} (h : 0 ≤ i ∧ i < 1000000000000000000) : (toString i : Str).length ≤ 18 := PyProof.Rows.toString_length_le (v := i) h.1 (k := 18) (by decide) h.2
theorem num_str {i : Int} (h : 0 ≤ i ∧ i < 1000000000000000000) : fStr [.int i] = some (.str (toString i : Str)) := fStr_r (by
  have h2 : i.natAbs < 2 ^ 60 := by
    rw [show (2 : Nat) ^ 60 = 1152921504606846976 from rfl]
    omega
  by_cases z : i.natAbs = 0
  · rw [z]; decide
  · have := (Nat.log2_lt z).mpr h2
    omega)
theorem low_ge {c : Nat} (h : isLow c = true) : 97 ≤ c := by
  have h' : c ∈ ("abcdefghijklmnopqrstuvwxyz" : Str).cps.toList := of_decide_eq_true h
  have key : ∀ c ∈ ("abcdefghijklmnopqrstuvwxyz" : Str).cps.toList, 97 ≤ c := by decide +kernel
  exact key c h'
theorem fig_ge {c : Nat} (h : isFig c = true) : 48 ≤ c ∧ c ≤ 57 := by
  have h' : c ∈ ("0123456789" : Str).cps.toList := of_decide_eq_true h
  have key : ∀ c ∈ ("0123456789" : Str).cps.toList, 48 ≤ c ∧ c ≤ 57 := by decide +kernel
  exact key c h'
/-! texts put together -/
/-- a text that ends in no bracket that opens -/
def Shut (z : Str) : Prop := ∃ c, z.cps.toList.getLast? = some c ∧ c ≠ 40
/-- nothing is to stand ahead of the next word -/
def opn (p : Str) : Bool := match p.cps.toList.getLast? with
  | none => true
  | some c => decide (c = 40)
def sep (p : Str) : Str := if opn p = true then "" else " "
def step (p w : Str) : Str := if opn p = false ∧ w ≠ ")" then p ++ " " ++ w else p ++ w
def gl (p : Str) : List Str → Str
  | [] => p
  | w :: ws => gl (step p w) ws
theorem gl_app (p : Str) : ∀ (a b : List Str), gl p (a ++ b) = gl (gl p a) b
  | [], _ => rfl
  | w :: a, b => gl_app (step p w) a b
theorem app_asc (a b c : Str) : a ++ b ++ c = a ++ (b ++ c) := congrArg Str.mk Array.append_assoc
theorem app_nil (a : Str) : a ++ ("" : Str) = a := congrArg Str.mk Array.append_empty
theorem Shut.app {z : Str} (a : Str) (h : Shut z) : Shut (a ++ z) := by
  obtain ⟨c, e, n⟩ := h
  refine ⟨c, ?_, n⟩
  rw [toList_app, List.getLast?_append, e]
  rfl
theorem Shut.opn {z : Str} (h : Shut z) : opn z = false := by
  obtain ⟨c, e, n⟩ := h
  unfold VL.opn
  rw [e]
  exact decide_eq_false n
theorem Shut.sep {z : Str} (h : Shut z) : sep z = " " := by
  unfold VL.sep
  rw [h.opn]
  rfl
theorem opn_app (a : Str) : opn (a ++ "(") = true := by
  unfold opn
  rw [toList_app, List.getLast?_append]
  rfl
theorem step_sep (p w : Str) (h : w ≠ ")") : step p w = p ++ sep p ++ w := by
  unfold step sep
  cases opn p with
  | true => rw [if_neg (fun q => by cases q.1), if_pos rfl, app_nil]
  | false => rw [if_pos ⟨rfl, h⟩]; rfl
structure Good (ws : List Str) (s : Str) : Prop where
  eq : ∀ p, gl p ws = p ++ sep p ++ s
  shut : Shut s
theorem Good.one {w : Str} (h : w ≠ ")") (hs : Shut w) : Good [w] w := ⟨fun p => step_sep p w h, hs⟩
/-- words and texts, part by part -/
def Its (ws ss : List Str) : Prop := ∃ its : List (List Str × Str), ws = (its.map (·.1)).flatten ∧ ss = its.map (·.2) ∧ ∀ it ∈ its, Good it.1 it.2
theorem Its.nil : Its [] [] := ⟨[], rfl, rfl, fun _ h => (List.not_mem_nil h).elim⟩
theorem Its.cons {w ws : List Str} {s : Str} {ss : List Str} (h : Good w s) (r : Its ws ss) : Its (w ++ ws) (s :: ss) := by
  obtain ⟨its, rfl, rfl, h3⟩ := r
  refine ⟨(w, s) :: its, by simp, rfl, fun it hi => ?_⟩
  rcases List.mem_cons.mp hi with e | e
  · rw [e]; exact h
  · exact h3 it e
theorem Its.one {w : List Str} {s : Str} (h : Good w s) : Its w [s] := by
  have := Its.cons h .nil
  rwa [List.append_nil] at this
theorem Its.word {w : Str} {ws : List Str} {ss : List Str} (h : Good [w] w) (r : Its ws ss) : Its (w :: ws) (w :: ss) := Its.cons h r
theorem Its.app {ws vs ss ts : List Str} (h : Its ws ss) (r : Its vs ts) : Its (ws ++ vs) (ss ++ ts) := by
  obtain ⟨a, rfl, rfl, h3⟩ := h
  obtain ⟨b, rfl, rfl, h4⟩ := r
  refine ⟨a ++ b, by simp, by simp, fun it hi => ?_⟩
  rcases List.mem_append.mp hi with e | e
  · exact h3 it e
  · exact h4 it e
theorem join_str (y : Str) (ps : List Str) : Txt.join y ps = Str.join y ps := StrLaws.glued_eq_join y ps
theorem its_gl : ∀ (its : List (List Str × Str)), its ≠ [] → (∀ it ∈ its, Good it.1 it.2) → ∀ p, gl p (its.map (·.1)).flatten = p ++ sep p ++ Txt.join " " (its.map (·.2))
  | [x], _, h, p => by
    have := (h x List.mem_cons_self).eq p
    rw [join_str]
    show gl p (x.1 ++ []) = p ++ sep p ++ x.2
    rw [List.append_nil]
    exact this
  | x :: y :: r, _, h, p => by
    have h1 := h x List.mem_cons_self
    rw [List.map_cons, List.flatten_cons, gl_app, h1.eq p, its_gl (y :: r) (by simp) (fun it hi => h it (List.mem_cons_of_mem _ hi)), (h1.shut.app _).sep]
    rw [join_str, join_str]
    show _ = p ++ sep p ++ (x.2 ++ " " ++ Str.join " " ((y :: r).map (·.2)))
    simp only [app_asc]
def brk (ss : List Str) : Str := ("(" : Str) ++ Txt.join " " ss ++ (")" : Str)
theorem brk_shut (ss : List Str) : Shut (brk ss) := by
  refine ⟨41, ?_, by decide⟩
  unfold brk
  rw [toList_app, List.getLast?_append]
  rfl
theorem Its.brk {ws ss : List Str} (h : Its ws ss) (n : ss ≠ []) : Good (("(" : Str) :: (ws ++ [(")" : Str)])) (brk ss) := by
  obtain ⟨its, rfl, rfl, h3⟩ := h
  refine ⟨fun p => ?_, brk_shut _⟩
  have s1 : step p "(" = p ++ sep p ++ "(" := step_sep p "(" (by decide)
  show gl (step p "(") ((its.map (·.1)).flatten ++ [(")" : Str)]) = _
  rw [gl_app, s1, its_gl its (by intro e; exact n (by rw [e]; rfl)) h3]
  show step _ ")" = _
  unfold step
  rw [if_neg (fun q => q.2 rfl), show sep (p ++ sep p ++ "(") = "" from if_pos (opn_app _), app_nil]
  unfold VL.brk
  simp only [app_asc]
theorem brk_good {ws ss : List Str} (h : Its ws ss) (n : ss ≠ []) : Good (("(" : Str) :: (ws ++ [(")" : Str)])) (brk ss) := h.brk n
/-! the texts of a term -/
structure TI where
  t : Str
  f : List Str
  c : List Str
def TI.one (z : Str) : TI := ⟨z, [z], [z]⟩
mutual
def Tm.ti : Tm → TI
  | .num i => .one (toString i : Str)
  | .name x => .one x
  | .stop x => .one (brk ["stop", x])
  | .bare s => .one s
  | .does o a b => .one (brk [o, a.ti.t, b.ti.t])
  | .fn x a => ⟨brk ("fun" :: x :: a.ti.f), x :: a.ti.f, [brk ("fun" :: x :: a.ti.f)]⟩
  | .app a b => ⟨brk (a.ti.c ++ [b.ti.t]), [brk (a.ti.c ++ [b.ti.t])], a.ti.c ++ [b.ti.t]⟩
  | .lets bs a => .one (brk ("let" :: (bs.ts ++ [a.ti.t])))
  | .shape s a b => .one (brk [s, a.ti.t, b.ti.t])
  | .choose a cs => .one (brk ("choose" :: a.ti.t :: cs.ts))
  | .first a b => .one (brk ["first", a.ti.t, b.ti.t])
  | .rows a ss => .one (brk ("rows" :: a.ti.t :: ss.ts))
def Bs.ts : Bs → List Str
  | .nil => []
  | .cons x t r => brk [x, t.ti.t] :: r.ts
def Cs.ts : Cs → List Str
  | .nil => []
  | .cons s ws t r => brk (s :: (ws ++ [t.ti.t])) :: r.ts
def Ss.ts : Ss → List Str
  | .nil => []
  | .when t r => brk ["when", t.ti.t] :: r.ts
  | .bind w x t r => brk [w, x, t.ti.t] :: r.ts
end
/-! the words of a term -/
structure WI where
  w : List Str
  f : List Str
  c : List Str
def WI.one (z : List Str) : WI := ⟨z, z, z⟩
def brw (ws : List Str) : List Str := ("(" : Str) :: (ws ++ [(")" : Str)])
mutual
def Tm.wi : Tm → WI
  | .num i => .one [(toString i : Str)]
  | .name x => .one [x]
  | .stop x => .one (brw ["stop", x])
  | .bare s => .one [s]
  | .does o a b => .one (brw ([o] ++ a.wi.w ++ b.wi.w))
  | .fn x a => ⟨brw ("fun" :: x :: a.wi.f), x :: a.wi.f, brw ("fun" :: x :: a.wi.f)⟩
  | .app a b => ⟨brw (a.wi.c ++ b.wi.w), brw (a.wi.c ++ b.wi.w), a.wi.c ++ b.wi.w⟩
  | .lets bs a => .one (brw ([("let" : Str)] ++ bs.ws ++ a.wi.w))
  | .shape s a b => .one (brw ([s] ++ a.wi.w ++ b.wi.w))
  | .choose a cs => .one (brw ([("choose" : Str)] ++ a.wi.w ++ cs.ws))
  | .first a b => .one (brw ([("first" : Str)] ++ a.wi.w ++ b.wi.w))
  | .rows a ss => .one (brw ([("rows" : Str)] ++ a.wi.w ++ ss.ws))
def Bs.ws : Bs → List Str
  | .nil => []
  | .cons x t r => brw ([x] ++ t.wi.w) ++ r.ws
def Cs.ws : Cs → List Str
  | .nil => []
  | .cons s ws t r => brw ([s] ++ ws ++ t.wi.w) ++ r.ws
def Ss.ws : Ss → List Str
  | .nil => []
  | .when t r => brw ([("when" : Str)] ++ t.wi.w) ++ r.ws
  | .bind w x t r => brw ([w, x] ++ t.wi.w) ++ r.ws
end
/-! words stand for texts -/
theorem name_shut {x : Str} (h : NameOk x) : Shut x := by
  have hl : x.cps.toList ≠ [] := by
    intro e
    have h1 := h.one
    have : x.length = x.cps.toList.length := rfl
    rw [e] at this
    simp at this
    omega
  refine ⟨x.cps.toList.getLast hl, List.getLast?_eq_some_getLast hl, ?_⟩
  rcases h.all _ (List.getLast_mem hl) with q | q
  · have := low_ge q
    omega
  · have := fig_ge q
    omega
theorem name_ne {x : Str} (h : NameOk x) : x ≠ ")" := by
  intro e
  subst e
  have := h.low
  revert this
  decide +kernel
theorem name_good {x : Str} (h : NameOk x) : Good [x] x := .one (name_ne h) (name_shut h)
theorem num_good {i : Int} (h : 0 ≤ i) : Good [(toString i : Str)] (toString i : Str) := by
  have hl := num_ne h
  refine .one (fun e => ?_) ⟨_, List.getLast?_eq_some_getLast hl, ?_⟩
  · have := num_fig h 41 (by rw [e]; decide)
    omega
  · have := num_fig h _ (List.getLast_mem hl)
    omega
theorem shut_lit (s : String) (h : Shut s ∧ (s : Str) ≠ ")") : Good [(s : Str)] (s : Str) := .one h.2 h.1
theorem lit_good {z : Str} (h : z ∈ (["fun", "let", "choose", "first", "stop", "rows", "in", "when", "be", "Nil", "No", "Yes", "Cons", "Pair", "+", "-", "*", "<", "="] : List Str)) : Good [z] z := by
  have key : ∀ z ∈ (["fun", "let", "choose", "first", "stop", "rows", "in", "when", "be", "Nil", "No", "Yes", "Cons", "Pair", "+", "-", "*", "<", "="] : List Str), opn z = false ∧ z ≠ ")" := by decide +kernel
  obtain ⟨h1, h2⟩ := key z h
  refine .one h2 ?_
  unfold opn at h1
  cases e : z.cps.toList.getLast? with
  | none => rw [e] at h1; cases h1
  | some c => rw [e] at h1; exact ⟨c, e, of_decide_eq_false h1⟩
theorem its_names : ∀ (ws : List Str), (∀ z ∈ ws, NameOk z) → Its ws ws
  | [], _ => .nil
  | w :: ws, h => .word (name_good (h w List.mem_cons_self)) (its_names ws fun z hz => h z (List.mem_cons_of_mem _ hz))
structure TmGood (w : WI) (t : TI) : Prop where
  g : Good w.w t.t
  f : Its w.f t.f
  c : Its w.c t.c
theorem TmGood.one {w : List Str} {s : Str} (h : Good w s) : TmGood (.one w) (.one s) := ⟨h, .one h, .one h⟩
theorem cs_names {cs : Cs} (h : cs.Ok) : ∀ s ws t r, cs = .cons s ws t r → (s = "Nil" ∨ s = "No" ∨ s = "Yes" ∨ s = "Cons" ∨ s = "Pair") ∧ (∀ z ∈ ws, NameOk z) ∧ ws.length ≤ 2 := by
  intro s ws t r e
  cases h with
  | cons h nd ok => cases e; exact ⟨.inl rfl, fun _ h => (List.not_mem_nil h).elim, by decide⟩
  | yes => cases e; exact ⟨.inr (.inl rfl), fun _ h => (List.not_mem_nil h).elim, by decide⟩
  | pair h nd ok => cases e; exact ⟨.inr (.inr (.inr (.inr rfl))), ok, by omega⟩
end VL
/-! VL26: words stand for texts; how long both are. -/
namespace VL
open PySem L2
/-- the ways of a choose are named rightly -/
def Cs.nm : Cs → Prop
  | .nil => True
  | .cons s ws _ r => s ∈ (["Nil", "No", "Yes", "Cons", "Pair"] : List Str) ∧ (∀ z ∈ ws, NameOk z) ∧ ws.length ≤ 2 ∧ r.nm
theorem Cs.Ok.nm {cs : Cs} (h : cs.Ok) : cs.nm := by
  cases h with
  | cons h nd ok => exact ⟨by decide, fun _ h => (List.not_mem_nil h).elim, by decide, by decide, ok, by omega, trivial⟩
  | yes => exact ⟨by decide, fun _ h => (List.not_mem_nil h).elim, by decide, by decide, fun _ h => (List.not_mem_nil h).elim, by decide, trivial⟩
  | pair h nd ok => exact ⟨by decide, ok, by omega, trivial⟩
theorem sub_lit {z : Str} {l : List Str} (h : z ∈ l) (hl : ∀ z ∈ l, z ∈ (["fun", "let", "choose", "first", "stop", "rows", "in", "when", "be", "Nil", "No", "Yes", "Cons", "Pair", "+", "-", "*", "<", "="] : List Str)) : Good [z] z := lit_good (hl z h)
theorem good_two {o : Str} {a b : List Str} {s t : Str} (ho : Good [o] o) (ha : Good a s) (hb : Good b t) : Good (brw ([o] ++ a ++ b)) (brk [o, s, t]) := by
  have h := ((Its.one ho).app (.one ha)).app (.one hb)
  exact brk_good h (by simp)
mutual
theorem Tm.good : ∀ t : Tm, t.ok → TmGood t.wi t.ti
  | .num i, h => .one (num_good h.1)
  | .name x, h => .one (name_good h)
  | .stop x, h => .one (brk_good (.word (lit_good (by decide)) (.one (name_good h))) (by simp))
  | .bare s, h => .one (sub_lit (l := ["Nil", "No", "Yes"]) (by rcases h with rfl | rfl | rfl <;> decide) (by decide))
  | .does o a b, h => .one (good_two (sub_lit h.1 (by decide)) (a.good h.2.1).g (b.good h.2.2).g)
  | .fn x a, h => by
    have f : Its (x :: a.wi.f) (x :: a.ti.f) := .word (name_good h.1) (a.good h.2).f
    have g : Good (brw ("fun" :: x :: a.wi.f)) (brk ("fun" :: x :: a.ti.f)) := brk_good (.word (lit_good (by decide)) f) (by simp)
    exact ⟨g, f, .one g⟩
  | .app a b, h => by
    have c : Its (a.wi.c ++ b.wi.w) (a.ti.c ++ [b.ti.t]) := (a.good h.1).c.app (.one (b.good h.2).g)
    have g : Good (brw (a.wi.c ++ b.wi.w)) (brk (a.ti.c ++ [b.ti.t])) := brk_good c (by simp)
    exact ⟨g, .one g, c⟩
  | .lets bs a, h => .one (brk_good (((Its.one (lit_good (z := "let") (by decide))).app (bs.good h.2.2.1)).app (.one (a.good h.2.2.2).g)) (by simp))
  | .shape s a b, h => .one (good_two (sub_lit (l := ["Cons", "Pair"]) (by rcases h.1 with rfl | rfl <;> decide) (by decide)) (a.good h.2.1).g (b.good h.2.2).g)
  | .choose a cs, h => .one (brk_good (((Its.one (lit_good (z := "choose") (by decide))).app (.one (a.good h.1).g)).app (cs.good h.2.2 h.2.1.nm)) (by simp))
  | .first a b, h => .one (good_two (lit_good (by decide)) (a.good h.1).g (b.good h.2).g)
  | .rows a ss, h => .one (brk_good (((Its.one (lit_good (z := "rows") (by decide))).app (.one (a.good h.1).g)).app (ss.good h.2)) (by simp))
theorem Bs.good : ∀ b : Bs, b.ok → Its b.ws b.ts
  | .nil, _ => .nil
  | .cons x t r, h => .cons (brk_good ((Its.one (name_good h.1)).app (.one (t.good h.2.1).g)) (by simp)) (r.good h.2.2)
theorem Cs.good : ∀ c : Cs, c.ok → c.nm → Its c.ws c.ts
  | .nil, _, _ => .nil
  | .cons s ws t r, h, n => .cons (brk_good (((Its.one (sub_lit n.1 (by decide))).app (its_names ws n.2.1)).app (.one (t.good h.1).g)) (by simp)) (r.good h.2 n.2.2.2)
theorem Ss.good : ∀ s : Ss, s.ok → Its s.ws s.ts
  | .nil, _ => .nil
  | .when t r, h => .cons (brk_good ((Its.one (lit_good (z := "when") (by decide))).app (.one (t.good h.1).g)) (by simp)) (r.good h.2)
  | .bind w x t r, h => .cons (brk_good (((Its.word (sub_lit (l := ["in", "be"]) (by rcases h.1 with rfl | rfl <;> decide) (by decide)) (.one (name_good h.2.1)))).app (.one (t.good h.2.2.1).g)) (by simp)) (r.good h.2.2.2)
end
/-! lengths -/
def tot (ss : List Str) : Nat := (ss.map fun s => s.length + 1).sum
@[simp] theorem tot_nil : tot [] = 0 := (rfl)
@[simp] theorem tot_cons (s : Str) (r : List Str) : tot (s :: r) = s.length + 1 + tot r := by
  unfold tot
  rw [List.map_cons, List.sum_cons]
@[simp] theorem tot_app (a b : List Str) : tot (a ++ b) = tot a + tot b := by
  unfold tot
  rw [List.map_append, List.sum_append]
theorem tot_eq (ss : List Str) : tot ss = (ss.map (·.length)).sum + ss.length := by
  induction ss with
  | nil => rfl
  | cons s r ih => rw [tot_cons, ih, List.map_cons, List.sum_cons, List.length_cons]; omega
theorem brk_len (ss : List Str) : (brk ss).length ≤ 2 + tot ss := by
  unfold brk
  rw [len_app, len_app, tot_eq]
  have e : (Txt.join " " ss).length = (ss.map (·.length)).sum + (ss.length - 1) * (" " : Str).length := PySem.size_glued " " ss
  rw [e, show (" " : Str).length = 1 by decide, show ("(" : Str).length = 1 by decide, show (")" : Str).length = 1 by decide]
  omega
theorem lit_len {z : Str} {l : List Str} (h : z ∈ l) (hl : ∀ z ∈ l, z.length ≤ 6) : z.length ≤ 6 := hl z h
theorem names_tot : ∀ (ws : List Str), (∀ z ∈ ws, NameOk z) → tot ws ≤ 9 * ws.length
  | [], _ => Nat.le_refl _
  | w :: ws, h => by
    have h1 := (h w List.mem_cons_self).eight
    have h2 := names_tot ws fun z hz => h z (List.mem_cons_of_mem _ hz)
    rw [tot_cons, List.length_cons]
    omega
structure TmLen (n : Nat) (wi : WI) (ti : TI) : Prop where
  t : ti.t.length + 14 ≤ n
  f : tot ti.f ≤ n
  c : tot ti.c ≤ n
  w : wi.w.length ≤ n
  wf : wi.f.length ≤ n
  wc : wi.c.length ≤ n
theorem TmLen.one {n : Nat} {ws : List Str} {s : Str} (h : s.length + 14 ≤ n) (hw : ws.length ≤ n) : TmLen n (.one ws) (.one s) := by
  have e : tot [s] ≤ n := by rw [tot_cons, tot_nil]; omega
  exact ⟨h, e, e, hw, hw, hw⟩
theorem brk_le {ss : List Str} {n : Nat} (h : tot ss + 16 ≤ n) : (brk ss).length + 14 ≤ n := by
  have := brk_len ss
  omega
mutual
theorem Tm.len : ∀ t : Tm, t.ok → TmLen t.wd t.wi t.ti
  | .num i, h => .one (by have := num_len h; show (toString i : Str).length + 14 ≤ 32; omega) (show 1 ≤ 32 by decide)
  | .name x, h => .one (by have := h.eight; show x.length + 14 ≤ 32; omega) (show 1 ≤ 32 by decide)
  | .stop x, h => .one (brk_le (by have := h.eight; simp [Tm.wd, show ("stop" : Str).length = 4 by decide]; omega)) (show 4 ≤ 32 by decide)
  | .bare s, h => .one (by have : s.length ≤ 3 := by (rcases h with rfl | rfl | rfl <;> decide)
                           show s.length + 14 ≤ 32; omega) (show 1 ≤ 32 by decide)
  | .does o a b, h => by
    have la := a.len h.2.1
    have lb := b.len h.2.2
    have lo := lit_len h.1 (by decide)
    refine .one (brk_le ?_) ?_
    · have h1 := la.t
      have h2 := lb.t
      simp [Tm.wd]
      omega
    · have h1 := la.w
      have h2 := lb.w
      simp [Tm.wd, brw]
      omega
  | .fn x a, h => by
    have la := a.len h.2
    have h1 := la.f
    have h2 := la.wf
    have h8 := h.1.eight
    have l3 : ("fun" : Str).length = 3 := by decide
    have e : (brk ("fun" :: x :: a.ti.f)).length + 14 ≤ a.wd + 32 := brk_le (by simp [l3]; omega)
    refine ⟨e, ?_, ?_, ?_, ?_, ?_⟩
    · simp [Tm.ti, Tm.wd]; omega
    · simp [Tm.ti, Tm.wd]; omega
    · simp [Tm.wi, Tm.wd, brw]; omega
    · simp [Tm.wi, Tm.wd]; omega
    · simp [Tm.wi, Tm.wd, brw]; omega
  | .app a b, h => by
    have la := a.len h.1
    have lb := b.len h.2
    have h1 := la.c
    have h2 := la.wc
    have h3 := lb.t
    have h4 := lb.w
    have e : (brk (a.ti.c ++ [b.ti.t])).length + 14 ≤ a.wd + b.wd + 32 := brk_le (by simp; omega)
    refine ⟨e, ?_, ?_, ?_, ?_, ?_⟩
    · simp [Tm.ti, Tm.wd]; omega
    · simp [Tm.ti, Tm.wd]; omega
    · simp [Tm.wi, Tm.wd, brw]; omega
    · simp [Tm.wi, Tm.wd, brw]; omega
    · simp [Tm.wi, Tm.wd]; omega
  | .lets bs a, h => by
    have la := a.len h.2.2.2
    have lb := bs.len h.2.2.1
    refine .one (brk_le ?_) ?_
    · have h1 := la.t
      have h2 := lb.1
      simp [Tm.wd, show ("let" : Str).length = 3 by decide]
      omega
    · have h1 := la.w
      have h2 := lb.2
      simp [Tm.wd, brw]
      omega
  | .shape s a b, h => by
    have la := a.len h.2.1
    have lb := b.len h.2.2
    have lo : s.length ≤ 4 := by rcases h.1 with rfl | rfl <;> decide
    refine .one (brk_le ?_) ?_
    · have h1 := la.t
      have h2 := lb.t
      simp [Tm.wd]
      omega
    · have h1 := la.w
      have h2 := lb.w
      simp [Tm.wd, brw]
      omega
  | .choose a cs, h => by
    have la := a.len h.1
    have lb := cs.len h.2.2 h.2.1.nm
    refine .one (brk_le ?_) ?_
    · have h1 := la.t
      have h2 := lb.1
      simp [Tm.wd, show ("choose" : Str).length = 6 by decide]
      omega
    · have h1 := la.w
      have h2 := lb.2
      simp [Tm.wd, brw]
      omega
  | .first a b, h => by
    have la := a.len h.1
    have lb := b.len h.2
    refine .one (brk_le ?_) ?_
    · have h1 := la.t
      have h2 := lb.t
      simp [Tm.wd, show ("first" : Str).length = 5 by decide]
      omega
    · have h1 := la.w
      have h2 := lb.w
      simp [Tm.wd, brw]
      omega
  | .rows a ss, h => by
    have la := a.len h.1
    have lb := ss.len h.2
    refine .one (brk_le ?_) ?_
    · have h1 := la.t
      have h2 := lb.1
      simp [Tm.wd, show ("rows" : Str).length = 4 by decide]
      omega
    · have h1 := la.w
      have h2 := lb.2
      simp [Tm.wd, brw]
      omega
theorem Bs.len : ∀ b : Bs, b.ok → tot b.ts ≤ b.wd ∧ b.ws.length ≤ b.wd
  | .nil, _ => ⟨Nat.le_refl _, Nat.le_refl _⟩
  | .cons x t r, h => by
    have lt := t.len h.2.1
    have lr := r.len h.2.2
    have h1 := lt.t
    have h2 := lt.w
    have h3 := lr.1
    have h4 := lr.2
    have h8 := h.1.eight
    have hb := brk_len [x, t.ti.t]
    simp at hb
    constructor
    · simp [Bs.ts, Bs.wd]
      omega
    · simp [Bs.ws, Bs.wd, brw]
      omega
theorem Cs.len : ∀ c : Cs, c.ok → c.nm → tot c.ts ≤ c.wd ∧ c.ws.length ≤ c.wd
  | .nil, _, _ => ⟨Nat.le_refl _, Nat.le_refl _⟩
  | .cons s ws t r, h, n => by
    have lt := t.len h.1
    have lr := r.len h.2 n.2.2.2
    have h1 := lt.t
    have h2 := lt.w
    have h3 := lr.1
    have h4 := lr.2
    have h5 : s.length ≤ 6 := lit_len n.1 (by decide)
    have h6 := names_tot ws n.2.1
    have h7 := n.2.2.1
    have hb := brk_len (s :: (ws ++ [t.ti.t]))
    simp at hb
    constructor
    · simp [Cs.ts, Cs.wd]
      omega
    · simp [Cs.ws, Cs.wd, brw]
      omega
theorem Ss.len : ∀ s : Ss, s.ok → tot s.ts ≤ s.wd ∧ s.ws.length ≤ s.wd
  | .nil, _ => ⟨Nat.le_refl _, Nat.le_refl _⟩
  | .when t r, h => by
    have lt := t.len h.1
    have lr := r.len h.2
    have h1 := lt.t
    have h2 := lt.w
    have h3 := lr.1
    have h4 := lr.2
    have hb := brk_len ["when", t.ti.t]
    simp [show ("when" : Str).length = 4 by decide] at hb
    constructor
    · simp [Ss.ts, Ss.wd]
      omega
    · simp [Ss.ws, Ss.wd, brw]
      omega
  | .bind w x t r, h => by
    have lt := t.len h.2.2.1
    have lr := r.len h.2.2.2
    have h1 := lt.t
    have h2 := lt.w
    have h3 := lr.1
    have h4 := lr.2
    have h5 : w.length ≤ 2 := by rcases h.1 with rfl | rfl <;> decide
    have h8 := h.2.1.eight
    have hb := brk_len [w, x, t.ti.t]
    simp at hb
    constructor
    · simp [Ss.ts, Ss.wd]
      omega
    · simp [Ss.ws, Ss.wd, brw]
      omega
end
end VL
/-! VL27: terms of a depth, wrapped. -/
namespace VL
open PySem L2
def termB (f_leaf : List D → R D) (f_many : List D → R D) (f_term : List D → R D) (f_joined : List D → R D) : SM := sSeq (sSet 3 (eC (.int 0))) (sSeq (sIf (eT (eBin dGt (.v .im) (eCB fLen [.b 0] (eCons eSl (eNil))) (.v .im) (eC (.int 0)))) (sSet 3 (eMeth fPopAt 0 (eCons (eC (.int 0)) eNil))) (sNx)) (sSeq (sSet 4 (eBin dMod (.v .im) (eVar 3) (.v .im) (eC (.int 9)))) (sSeq (sIf (eOrT (eT (eBin dLe (.v .im) (eVar 1) (.v .im) (eC (.int 1)))) (eOrT (eT (eBin dEq (.v .im) (eCB fLen [.b 0] (eCons eSl (eNil))) (.v .im) (eC (.int 0)))) (eT (eBin dEq (.v .im) (eVar 4) (.v .im) (eC (.int 0)))))) (sRet (eCall f_leaf [.v .im, .v (.L .im)] [] (eCons (eBin dDiv (.v .im) (eVar 3) (.v .im) (eC (.int 9))) (eCons (eVar 2) (eNil))))) (sNx)) (sSeq (sSet 5 (eLst (eNil))) (sSeq (sFor (eRg rg1 (eCons (eCall f_many [.v .im, .v .im] [] (eCons (eVar 4) (eCons (eBin dDiv (.v .im) (eVar 3) (.v .im) (eC (.int 9))) (eNil)))) (eNil))) (.nm 6) (sDo (eMeth fApp 5 (eCons (eCall f_term [.o 0, .v .im, .v (.L .im)] [] (eCons eSl (eCons (eBin dSub (.v .im) (eVar 1) (.v .im) (eC (.int 1))) (eCons (eVar 2) (eNil))))) eNil)))) (sRet (eCall f_joined [.v .im, .v .im, .v (.L .im), .v (.L .im)] [] (eCons (eVar 4) (eCons (eBin dDiv (.v .im) (eVar 3) (.v .im) (eC (.int 9))) (eCons (eVar 5) (eCons (eVar 2) (eNil))))))))))))
def wrappedB (f_leaf : List D → R D) : SM := sSeq (sFor (eRg rg1 (eCons (eBin dMod (.v .im) (eVar 1) (.v .im) (eC (.int 12))) (eNil))) (.nm 3) (sSeq (sSet 4 (eBin dMod (.v .im) (eBin dDiv (.v .im) (eVar 1) (.v .im) (eBin dAdd (.v .im) (eC (.int 12)) (.v .im) (eBin dMul (.v .im) (eC (.int 3)) (.v .im) (eVar 3)))) (.v .im) (eC (.int 3)))) (sIf (eT (eBin dEq (.v .im) (eVar 4) (.v .im) (eC (.int 0)))) (sSet 0 (eTup (eCons (eC (.str "fun")) (eCons (eBin dIx (.v (.L .im)) (eVar 2) (.v .im) (eBin dMod (.v .im) (eBin dDiv (.v .im) (eVar 1) (.v .im) (eBin dAdd (.v .im) (eC (.int 17)) (.v .im) (eVar 3))) (.v .im) (eCB fLen [.v (.L .im)] (eCons (eVar 2) (eNil))))) (eCons (eVar 0) (eNil)))))) (sIf (eT (eBin dEq (.v .im) (eVar 4) (.v .im) (eC (.int 1)))) (sSet 0 (eTup (eCons (eC (.str "call")) (eCons (eVar 0) (eCons (eCall f_leaf [.v .im, .v (.L .im)] [] (eCons (eBin dDiv (.v .im) (eVar 1) (.v .im) (eBin dAdd (.v .im) (eC (.int 19)) (.v .im) (eVar 3))) (eCons (eVar 2) (eNil)))) (eNil)))))) (sSet 0 (eTup (eCons (eC (.str "shape")) (eCons (eC (.str "Cons")) (eCons (eTup (eCons (eCall f_leaf [.v .im, .v (.L .im)] [] (eCons (eBin dDiv (.v .im) (eVar 1) (.v .im) (eBin dAdd (.v .im) (eC (.int 23)) (.v .im) (eVar 3))) (eCons (eVar 2) (eNil)))) (eCons (eVar 0) (eNil)))) (eNil)))))))))) (sRet (eVar 0))
theorem le_six {s n : Int} {m : Nat} (h0 : 0 ≤ s) (h8 : s ≤ 8) (h : ¬ s = 0) (c1 : s = 1 → m = 2) (c2 : s = 2 → m = 1) (c3 : s = 3 → m = 2) (c4 : s = 4 → 2 ≤ m ∧ m ≤ 6) (c5 : s = 5 → m = 2) (c6 : s = 6 → (n % 3 = 2 ∧ m = 2) ∨ (n % 3 ≠ 2 ∧ m = 3)) (c7 : s = 7 → m = 2) (c8 : s = 8 → 1 ≤ m ∧ m ≤ 4) : m ≤ 6 := by
  have h : s = 1 ∨ s = 2 ∨ s = 3 ∨ s = 4 ∨ s = 5 ∨ s = 6 ∨ s = 7 ∨ s = 8 := by omega
  rcases h with q | q | q | q | q | q | q | q
  · have := c1 q; omega
  · have := c2 q; omega
  · have := c3 q; omega
  · have := c4 q; omega
  · have := c5 q; omega
  · rcases c6 q with ⟨_, e⟩ | ⟨_, e⟩ <;> omega
  · have := c7 q; omega
  · have := c8 q; omega
theorem join_args {s n : Int} {m : Nat} {l : List D} (h0 : 0 ≤ s) (h8 : s ≤ 8) (h : ¬ s = 0) (c1 : s = 1 → m = 2) (c2 : s = 2 → m = 1) (c3 : s = 3 → m = 2) (c4 : s = 4 → 2 ≤ m ∧ m ≤ 6) (c5 : s = 5 → m = 2) (c6 : s = 6 → (n % 3 = 2 ∧ m = 2) ∨ (n % 3 ≠ 2 ∧ m = 3)) (c7 : s = 7 → m = 2) (c8 : s = 8 → 1 ≤ m ∧ m ≤ 4) (hl : l.length = m) : JoinArgs s n l := by
  have h : s = 1 ∨ s = 2 ∨ s = 3 ∨ s = 4 ∨ s = 5 ∨ s = 6 ∨ s = 7 ∨ s = 8 := by omega
  subst hl
  unfold JoinArgs
  rcases h with q | q | q | q | q | q | q | q
  · exact .inl ⟨q, c1 q⟩
  · exact .inr (.inl ⟨q, by have := c2 q; omega⟩)
  · exact .inr (.inr (.inl ⟨q, c3 q⟩))
  · exact .inr (.inr (.inr (.inl ⟨q, c4 q⟩)))
  · exact .inr (.inr (.inr (.inr (.inl ⟨q, c5 q⟩))))
  · exact .inr (.inr (.inr (.inr (.inr (.inl ⟨q, c6 q⟩)))))
  · exact .inr (.inr (.inr (.inr (.inr (.inr (.inl ⟨q, c7 q⟩))))))
  · exact .inr (.inr (.inr (.inr (.inr (.inr (.inr ⟨q, c8 q⟩))))))
def ManyOk (fm : List D → R D) : Prop := ∀ s n : Int, 0 ≤ s ∧ s ≤ 8 → (fm [.int s, .int n]).sat fun d _ => ∃ m : Nat, d = .int m ∧ (s = 0 → m = 0) ∧ (s = 1 → m = 2) ∧ (s = 2 → m = 1) ∧ (s = 3 → m = 2) ∧ (s = 4 → 2 ≤ m ∧ m ≤ 6) ∧ (s = 5 → m = 2) ∧ (s = 6 → (n % 3 = 2 ∧ m = 2) ∨ (n % 3 ≠ 2 ∧ m = 3)) ∧ (s = 7 → m = 2) ∧ (s = 8 → 1 ≤ m ∧ m ≤ 4)
theorem term_sat (fl fm ft fj : List D → R D) (pool : D) (P Q : D → Prop) (p : Nat)
    (hl : ∀ n : Int, (fl [.int n, pool]).sat fun d _ => P d) (hm : ManyOk fm) (hj : ∀ (s n : Int) (l : List D), JoinArgs s n l → (fj [.int s, .int n, .lst l, pool]).sat fun d _ => Joined s l d)
    (ht : 1 < p → ∀ ds : List Int, (ft [.lst (ds.map D.int), .int ((p : Int) - 1), pool]).sat fun d outs => Q d ∧ ∃ (ds' : List Int) (x y : D), outs = [.lst (ds'.map D.int), x, y]) (ds : List Int) :
    (mkF false 7 3 (termB fl fm ft fj) [.lst (ds.map D.int), .int p, pool]).sat fun d outs => (P d ∨ (1 < p ∧ ∃ s l, l.length ≤ 6 ∧ Joined s l d ∧ ∀ x ∈ l, Q x)) ∧ ∃ (ds' : List Int) (x y : D), outs = [.lst (ds'.map D.int), x, y] := by
  refine mkF_sat ?_
  unfold termB
  have rest : ∀ (ds : List Int) (x : Int), R.sat ((sSeq (sSet 4 (eBin dMod (.v .im) (eVar 3) (.v .im) (eC (.int 9)))) (sSeq (sIf (eOrT (eT (eBin dLe (.v .im) (eVar 1) (.v .im) (eC (.int 1)))) (eOrT (eT (eBin dEq (.v .im) (eCB fLen [.b 0] (eCons eSl (eNil))) (.v .im) (eC (.int 0)))) (eT (eBin dEq (.v .im) (eVar 4) (.v .im) (eC (.int 0)))))) (sRet (eCall (fl) [.v .im, .v (.L .im)] [] (eCons (eBin dDiv (.v .im) (eVar 3) (.v .im) (eC (.int 9))) (eCons (eVar 2) (eNil))))) (sNx)) (sSeq (sSet 5 (eLst (eNil))) (sSeq (sFor (eRg rg1 (eCons (eCall (fm) [.v .im, .v .im] [] (eCons (eVar 4) (eCons (eBin dDiv (.v .im) (eVar 3) (.v .im) (eC (.int 9))) (eNil)))) (eNil))) (.nm 6) (sDo (eMeth fApp 5 (eCons (eCall (ft) [.o 0, .v .im, .v (.L .im)] [] (eCons eSl (eCons (eBin dSub (.v .im) (eVar 1) (.v .im) (eC (.int 1))) (eCons (eVar 2) (eNil))))) eNil)))) (sRet (eCall (fj) [.v .im, .v .im, .v (.L .im), .v (.L .im)] [] (eCons (eVar 4) (eCons (eBin dDiv (.v .im) (eVar 3) (.v .im) (eC (.int 9))) (eCons (eVar 5) (eCons (eVar 2) (eNil))))))))))) [.lst (ds.map D.int), .int p, pool, .int x, .non, .non, .non]) (rets false 3 fun d outs => (P d ∨ (1 < p ∧ ∃ s l, l.length ≤ 6 ∧ Joined s l d ∧ ∀ x ∈ l, Q x)) ∧ ∃ (ds' : List Int) (x y : D), outs = [.lst (ds'.map D.int), x, y]) := fun ds x => by
    have m9 := mod_r x 9 (by decide)
    have d9 := div_r x 9 (by decide) (by decide)
    simp [m9, d9]
    have lf := hl (x / 9)
    split
    · refine lf.mono fun d _ h => ?_
      exact ⟨.inl h, ds, rfl⟩
    · rename_i h1
      split
      · refine lf.mono fun d _ h => ?_
        exact ⟨.inl h, ds, rfl⟩
      · split
        · refine lf.mono fun d _ h => ?_
          exact ⟨.inl h, ds, rfl⟩
        · rename_i h2 h3
          have s0 : 0 ≤ x % 9 := by omega
          have s8 : x % 9 ≤ 8 := by omega
          refine (hm (x % 9) (x / 9) ⟨s0, s8⟩).mono fun d _ ⟨m, e, c0, c1, c2, c3, c4, c5, c6, c7, c8⟩ => ?_
          subst e
          have m6 := le_six s0 s8 h3 c1 c2 c3 c4 c5 c6 c7 c8
          have ja := fun l => join_args (l := l) s0 s8 h3 c1 c2 c3 c4 c5 c6 c7 c8
          clear c0 c1 c2 c3 c4 c5 c6 c7 c8
          try simp
          refine ⟨_, rg1_r (small_63 (by omega)), ?_⟩
          rw [Int.toNat_natCast]
          refine forUp_sat (fun k ρ => ∃ (ds : List Int) (l : List D) (a : D), ρ = [.lst (ds.map D.int), .int p, pool, .int x, .int (x % 9), .lst l, a] ∧ l.length = k ∧ ∀ x ∈ l, Q x) ⟨ds, [], _, rfl, rfl, fun _ h => (List.not_mem_nil h).elim⟩ (fun k ρ hk ⟨ds, l, a, e, hlen, hq⟩ => ?_) (fun ρ ⟨ds, l, a, e, hlen, hq⟩ => ?_)
          · subst e
            simp
            refine (ht (by omega) ds).mono fun d outs ⟨h, ds', y, z, eo⟩ => ?_
            subst eo
            simp [fApp_r (size_lt (show l.length ≤ 100000 by omega))]
            refine ⟨ds', l ++ [d], ⟨rfl, rfl⟩, by rw [List.length_append, hlen]; rfl, fun w hw => ?_⟩
            rcases List.mem_append.mp hw with e | e
            · exact hq w e
            · rw [List.mem_singleton.mp e]; exact h
          · subst e
            simp [d9]
            refine (hj (x % 9) (x / 9) l (ja l hlen)).mono fun d outs h => ?_
            exact ⟨.inr ⟨by omega, _, l, by omega, h, hq⟩, ds, rfl⟩
  cases ds with
  | nil =>
    have r0 := rest [] 0
    revert r0
    simp
  | cons y ds =>
    have r0 := rest ds y
    have pa : fPopAt (D.int y :: ds.map D.int) [.int 0] = some (.int y, ds.map D.int) := by
      unfold fPopAt
      show (if -(2 ^ 63) ≤ (0 : Int) ∧ (0 : Int) < 2 ^ 63 then _ else none) = _
      rw [if_pos (by decide)]
      have e : seqIndex? 0 (D.int y :: ds.map D.int).length = some 0 := by
        rw [List.length_cons]
        unfold seqIndex?
        simp
      rw [e]
      rfl
    have pos : (0 : Int) < (ds.length : Int) + 1 := by omega
    revert r0
    simp [pa, pos]
theorem wrapped_sat (fl : List D → R D) (pool : List Str) (hp : pool ≠ []) (hpl : pool.length ≤ 1000) (ok : ∀ z ∈ pool, NameOk z) (P : D → Prop) (Q : Nat → D → Prop)
    (hl : ∀ n : Int, (fl [.int n, .lst (pool.map D.str)]).sat fun d _ => P d) (h1 : ∀ k x d, NameOk x → Q k d → Q (k + 1) (tFun x d)) (h2 : ∀ k d e, Q k d → P e → Q (k + 1) (tApp d e)) (h3 : ∀ k d e, Q k d → P e → Q (k + 1) (tShape "Cons" [e, d])) (d : D) (n : Int) (h : Q 0 d) :
    (mkF false 5 3 (wrappedB fl) [d, .int n, .lst (pool.map D.str)]).sat fun d _ => ∃ k, k ≤ 11 ∧ Q k d := by
  refine mkF_sat ?_
  unfold wrappedB
  have pl : 0 < pool.length := List.length_pos_iff.mpr hp
  have mp : ∀ x : Int, dMod (.int x) (.int (pool.length : Int)) = some (.int (x % (pool.length : Int))) := fun x => mod_r _ _ (by omega)
  simp [mod_r n 12 (by decide)]
  have m0 : 0 ≤ n % 12 := by omega
  have m1 : n % 12 ≤ 11 := by omega
  refine ⟨_, rg1_r (small_63 (n := (n % 12).toNat) (by omega) |> fun q => by rwa [Int.toNat_of_nonneg m0] at q), ?_⟩
  refine forUp_sat (fun k ρ => ∃ d a b, ρ = [d, .int n, .lst (pool.map D.str), a, b] ∧ Q k d) ⟨_, _, _, rfl, h⟩ (fun k ρ hk ⟨d, a, b, e, hq⟩ => ?_) (fun ρ ⟨d, a, b, e, hq⟩ => ?_)
  · subst e
    have m3 : dMul (.int 3) (.int (k : Int)) = some (.int (3 * k)) := dMul_r (mulOk_l (by constructor <;> decide))
    have d12 := div_r n (12 + 3 * (k : Int)) (by omega) (by omega)
    have d17 := div_r n (17 + (k : Int)) (by omega) (by omega)
    have d19 := div_r n (19 + (k : Int)) (by omega) (by omega)
    have d23 := div_r n (23 + (k : Int)) (by omega) (by omega)
    obtain ⟨z, ez, mz⟩ := pool_at hp ok (n / (17 + (k : Int)))
    have w3 : n / (12 + 3 * (k : Int)) % 3 = 0 ∨ n / (12 + 3 * (k : Int)) % 3 = 1 ∨ n / (12 + 3 * (k : Int)) % 3 = 2 := by omega
    rcases w3 with w | w | w
    · simp [m3, d12, mod_r _ 3 (by decide), w, d17, mp]
      exact ⟨_, ez, h1 k z d (ok z mz) hq⟩
    · simp [m3, d12, mod_r _ 3 (by decide), w, d19]
      exact (hl _).mono fun e _ he => h2 k d e hq he
    · simp [m3, d12, mod_r _ 3 (by decide), w, d23]
      exact (hl _).mono fun e _ he => h3 k d e hq he
  · subst e
    simp
    exact ⟨_, by omega, hq⟩
end VL
/-! VL28: the lists within a term, as lists. -/
namespace VL
open PySem L2
def Bs.l : Bs → List (Str × Tm)
  | .nil => []
  | .cons x t r => (x, t) :: r.l
def Cs.l : Cs → List (Str × List Str × Tm)
  | .nil => []
  | .cons s ws t r => (s, ws, t) :: r.l
inductive Sp where
  | when (t : Tm) | bind (w x : Str) (t : Tm)
def Sp.t : Sp → Tm
  | .when t => t
  | .bind _ _ t => t
def Sp.d : Sp → D
  | .when t => .tup [.str "when", t.d]
  | .bind w x t => .tup [.str w, .str x, t.d]
def Sp.s : Sp → Str
  | .when t => brk ["when", t.ti.t]
  | .bind w x t => brk [w, x, t.ti.t]
def Sp.h : Sp → List Str
  | .when _ => ["when"]
  | .bind w x _ => [w, x]
def Sp.w (s : Sp) : List Str := brw (s.h ++ s.t.wi.w)
def Sp.ok : Sp → Prop
  | .when _ => True
  | .bind w x _ => (w = "in" ∨ w = "be") ∧ NameOk x
def Ss.l : Ss → List Sp
  | .nil => []
  | .when t r => .when t :: r.l
  | .bind w x t r => .bind w x t :: r.l
theorem Bs.d_l : ∀ b : Bs, b.d = b.l.map fun b => .tup [.str b.1, b.2.d]
  | .nil => rfl
  | .cons x t r => congrArg (_ :: ·) r.d_l
theorem Cs.d_l : ∀ c : Cs, c.d = c.l.map fun c => .tup [.str c.1, .tup (c.2.1.map D.str), c.2.2.d]
  | .nil => rfl
  | .cons s ws t r => congrArg (_ :: ·) r.d_l
theorem Ss.d_l : ∀ s : Ss, s.d = s.l.map Sp.d
  | .nil => rfl
  | .when t r => congrArg (_ :: ·) r.d_l
  | .bind w x t r => congrArg (_ :: ·) r.d_l
theorem Bs.ts_l : ∀ b : Bs, b.ts = b.l.map fun b => brk [b.1, b.2.ti.t]
  | .nil => rfl
  | .cons x t r => congrArg (_ :: ·) r.ts_l
theorem Cs.ts_l : ∀ c : Cs, c.ts = c.l.map fun c => brk (c.1 :: (c.2.1 ++ [c.2.2.ti.t]))
  | .nil => rfl
  | .cons s ws t r => congrArg (_ :: ·) r.ts_l
theorem Ss.ts_l : ∀ s : Ss, s.ts = s.l.map Sp.s
  | .nil => rfl
  | .when t r => congrArg (_ :: ·) r.ts_l
  | .bind w x t r => congrArg (_ :: ·) r.ts_l
theorem Bs.ws_l : ∀ b : Bs, b.ws = (b.l.map fun b => brw ([b.1] ++ b.2.wi.w)).flatten
  | .nil => rfl
  | .cons x t r => congrArg (brw ([x] ++ t.wi.w) ++ ·) r.ws_l
theorem Cs.ws_l : ∀ c : Cs, c.ws = (c.l.map fun c => brw ([c.1] ++ c.2.1 ++ c.2.2.wi.w)).flatten
  | .nil => rfl
  | .cons s ws t r => congrArg (brw ([s] ++ ws ++ t.wi.w) ++ ·) r.ws_l
theorem Ss.ws_l : ∀ s : Ss, s.ws = (s.l.map Sp.w).flatten
  | .nil => rfl
  | .when t r => congrArg (brw ([("when" : Str)] ++ t.wi.w) ++ ·) r.ws_l
  | .bind w x t r => congrArg (brw ([w, x] ++ t.wi.w) ++ ·) r.ws_l
theorem Bs.names_l : ∀ b : Bs, b.names = b.l.map (·.1)
  | .nil => rfl
  | .cons x t r => congrArg (x :: ·) r.names_l
theorem Bs.mem : ∀ {b : Bs} {x : Str × Tm}, b.ok → x ∈ b.l → NameOk x.1 ∧ x.2.ok ∧ x.2.dp ≤ b.dp ∧ x.2.wd + 32 ≤ b.wd
  | .cons y t r, x, h, hx => by
    rcases List.mem_cons.mp hx with e | e
    · subst e
      exact ⟨h.1, h.2.1, by show t.dp ≤ max t.dp r.dp; omega, by show t.wd + 32 ≤ t.wd + r.wd + 32; omega⟩
    · obtain ⟨h1, h2, h3, h4⟩ := Bs.mem h.2.2 e
      exact ⟨h1, h2, by show _ ≤ max t.dp r.dp; omega, by show _ ≤ t.wd + r.wd + 32; omega⟩
theorem Cs.mem : ∀ {c : Cs} {x : Str × List Str × Tm}, c.ok → x ∈ c.l → x.2.2.ok ∧ x.2.2.dp ≤ c.dp ∧ x.2.2.wd + 32 ≤ c.wd
  | .cons s ws t r, x, h, hx => by
    rcases List.mem_cons.mp hx with e | e
    · subst e
      exact ⟨h.1, by show t.dp ≤ max t.dp r.dp; omega, by show t.wd + 32 ≤ t.wd + r.wd + 32; omega⟩
    · obtain ⟨h1, h2, h3⟩ := Cs.mem h.2 e
      exact ⟨h1, by show _ ≤ max t.dp r.dp; omega, by show _ ≤ t.wd + r.wd + 32; omega⟩
theorem Cs.nm_mem : ∀ {c : Cs} {x : Str × List Str × Tm}, c.nm → x ∈ c.l → x.1 ∈ (["Nil", "No", "Yes", "Cons", "Pair"] : List Str) ∧ (∀ z ∈ x.2.1, NameOk z) ∧ x.2.1.length ≤ 2
  | .cons s ws t r, x, h, hx => by
    rcases List.mem_cons.mp hx with e | e
    · subst e
      exact ⟨h.1, h.2.1, h.2.2.1⟩
    · exact Cs.nm_mem h.2.2.2 e
theorem Ss.mem : ∀ {s : Ss} {x : Sp}, s.ok → x ∈ s.l → x.ok ∧ x.t.ok ∧ x.t.dp ≤ s.dp ∧ x.t.wd + 32 ≤ s.wd
  | .when t r, x, h, hx => by
    rcases List.mem_cons.mp hx with e | e
    · subst e
      exact ⟨trivial, h.1, by show t.dp ≤ max t.dp r.dp; omega, by show t.wd + 32 ≤ t.wd + r.wd + 32; omega⟩
    · obtain ⟨h1, h2, h3, h4⟩ := Ss.mem h.2 e
      exact ⟨h1, h2, by show _ ≤ max t.dp r.dp; omega, by show _ ≤ t.wd + r.wd + 32; omega⟩
  | .bind w y t r, x, h, hx => by
    rcases List.mem_cons.mp hx with e | e
    · subst e
      exact ⟨⟨h.1, h.2.1⟩, h.2.2.1, by show t.dp ≤ max t.dp r.dp; omega, by show t.wd + 32 ≤ t.wd + r.wd + 32; omega⟩
    · obtain ⟨h1, h2, h3, h4⟩ := Ss.mem h.2.2.2 e
      exact ⟨h1, h2, by show _ ≤ max t.dp r.dp; omega, by show _ ≤ t.wd + r.wd + 32; omega⟩
theorem Bs.l_len : ∀ b : Bs, b.l.length ≤ b.wd
  | .nil => Nat.le_refl _
  | .cons x t r => by have := r.l_len; show r.l.length + 1 ≤ t.wd + r.wd + 32; omega
theorem Cs.l_len : ∀ b : Cs, b.l.length ≤ b.wd
  | .nil => Nat.le_refl _
  | .cons s x t r => by have := r.l_len; show r.l.length + 1 ≤ t.wd + r.wd + 32; omega
theorem Ss.l_len : ∀ b : Ss, b.l.length ≤ b.wd
  | .nil => Nat.le_refl _
  | .when t r => by have := r.l_len; show r.l.length + 1 ≤ t.wd + r.wd + 32; omega
  | .bind w x t r => by have := r.l_len; show r.l.length + 1 ≤ t.wd + r.wd + 32; omega
theorem texts_of : ∀ ss : List Str, dTexts (ss.map D.str) = some ss
  | [] => rfl
  | s :: r => by
    show (dTexts (r.map D.str)).map (s :: ·) = _
    rw [texts_of r]
    rfl
theorem join_strs {ss : List Str} (h : tot ss ≤ 100000) : dJoin " " (.lst (ss.map D.str)) = some (.str (Txt.join " " ss)) := by
  show (dTexts (ss.map D.str)).bind _ = _
  rw [texts_of]
  show (if _ then _ else _) = _
  rw [tot_eq] at h
  rw [if_pos (by rw [show (" " : Str).length = 1 by decide]; omega)]
def bracketB : SM := sRet (eBin dAdd (.v .im) (eBin dAdd (.v .im) (eC (.str "(")) (.v .im) (eM1 dJoin (eC (.str " ")) (.v (.L .im)) (eVar 0))) (.v .im) (eC (.str ")")))
theorem bracket_sat (ss : List Str) (ds : List D) (e : ds = ss.map D.str) (h : tot ss ≤ 90000) : (mkF false 1 1 bracketB [.lst ds]).sat fun d _ => d = .str (brk ss) := by
  subst e
  refine mkF_sat ?_
  unfold bracketB
  have hl := brk_len ss
  unfold brk at hl
  rw [len_app, len_app] at hl
  have lp : ("(" : Str).length = 1 := by decide
  have lq : (")" : Str).length = 1 := by decide
  have a1 : dAdd (.str "(") (.str (Txt.join " " ss)) = some (.str (("(" : Str) ++ Txt.join " " ss)) := dAdd_s (Nat.le_of_lt (size_lt (by omega)))
  have a2 : dAdd (.str (("(" : Str) ++ Txt.join " " ss)) (.str ")") = some (.str (brk ss)) := dAdd_s (Nat.le_of_lt (size_lt (by rw [len_app]; omega)))
  have j := join_strs (ss := ss) (by omega)
  simp [j, a1, a2]
/-- a joined list, where both begin as texts -/
theorem fCat_strs (a b : List Str) (h : a.length + b.length ≤ 100000) : fCat (.lst (a.map D.str)) (.lst (b.map D.str)) = some ((a ++ b).map D.str) := by
  rw [fCat_r (by rw [List.length_map, List.length_map]; exact Nat.le_of_lt (size_lt h)), List.map_append]
theorem fApp_strs (a : List Str) (b : Str) (h : a.length ≤ 100000) : fApp (a.map D.str) [.str b] = some (.non, (a ++ [b]).map D.str) := by
  rw [fApp_r (by rw [List.length_map]; exact size_lt h), List.map_append]
  rfl
theorem fIns_strs (a : List Str) (b : Str) (h : a.length ≤ 100000) : fIns (a.map D.str) [.int 0, .str b] = some (.non, (b :: a).map D.str) := by
  unfold fIns
  show (if _ then _ else _) = _
  rw [if_pos ⟨by rw [List.length_map]; exact size_lt h, by decide, by decide⟩]
  simp
theorem tot_len (ss : List Str) : ss.length ≤ tot ss := by
  rw [tot_eq]
  omega
def Tm.tag : Tm → String
  | .num _ => "number"
  | .name _ => "name"
  | .stop _ => "stop"
  | .bare _ => "shape"
  | .does _ _ _ => "does"
  | .fn _ _ => "fun"
  | .app _ _ => "call"
  | .lets _ _ => "let"
  | .shape _ _ _ => "shape"
  | .choose _ _ => "choose"
  | .first _ _ => "first"
  | .rows _ _ => "rows"
theorem Tm.d_tag (t : Tm) : ∃ r, t.d = .tup (.str (t.tag : Str) :: r) := by cases t <;> exact ⟨_, rfl⟩
theorem Tm.is_fn (t : Tm) : (∃ y b, t = .fn y b) ∨ (t.tag ≠ "fun" ∧ t.ti.f = [t.ti.t] ∧ t.wi.f = t.wi.w) := by
  cases t <;> first | exact .inl ⟨_, _, rfl⟩ | exact .inr ⟨by simp [Tm.tag], rfl, rfl⟩
theorem Tm.is_app (t : Tm) : (∃ y b, t = .app y b) ∨ (t.tag ≠ "call" ∧ t.ti.c = [t.ti.t] ∧ t.wi.c = t.wi.w) := by
  cases t <;> first | exact .inl ⟨_, _, rfl⟩ | exact .inr ⟨by simp [Tm.tag], rfl, rfl⟩
theorem Tm.dp_pos (t : Tm) : 1 ≤ t.dp := by cases t <;> simp [Tm.dp]
end VL
/-! VL29: dicts by value. -/
namespace VL
open PySem L2
def kD : Key → D
  | .inl i => .int i
  | .inr s => .str s
def dK : D → Option Key
  | .int i => some (.inl i)
  | .str s => some (.inr s)
  | _ => none
@[simp] theorem dK_int (i : Int) : dK (.int i) = some (.inl i) := (rfl)
@[simp] theorem dK_str (i : Str) : dK (.str i) = some (.inr i) := (rfl)
@[simp] theorem kD_inl (i : Int) : kD (.inl i) = .int i := (rfl)
@[simp] theorem kD_inr (i : Str) : kD (.inr i) = .str i := (rfl)
def dVal (kvs : List (Key × D)) (k : Key) : Option D := (kvs.find? fun kv => decide (kv.1 = k)).map (·.2)
def dSet (kvs : List (Key × D)) (k : Key) (d : D) : List (Key × D) :=
  if (kvs.any fun kv => decide (kv.1 = k)) = true then kvs.map (fun kv => if kv.1 = k then (kv.1, d) else kv) else kvs ++ [(k, d)]
section
variable {K : PySem.W.Frag} {H H' : Hp} {W W' : AS} {d : D} {v : V} {k : Key}
theorem Vw.key (h : Vw K H W d v) (e : dK d = some k) : v = kV k := by
  cases d with
  | int i => cases e; exact h.int
  | str i => cases e; exact h.str
  | _ => cases e
theorem Fz.kD : Fz K H W (kD k) (kV k) := by cases k <;> rfl
theorem Vw.dic {kvs : List (Key × D)} (h : Vw K H W (.dic kvs) v) : ∃ a ks, v = .ref a ∧ Rd H a (.dK ks) ∧ FzM K H W kvs ks := by
  rcases h with ⟨a, ks, h1, h2, h3, h4⟩ | ⟨a, e1, ⟨ds', xs, e, h2, h3⟩ | ⟨kvs', ks, e, h2, h3⟩⟩
  · exact ⟨a, ks, h1, h2, h4⟩
  · cases e
  · cases e
    exact ⟨a, ks, e1, .inl h2, h3⟩
theorem FzM.len : ∀ {kvs : List (Key × D)} {ks : List (Key × V)}, FzM K H W kvs ks → kvs.length = ks.length
  | [], _, h => by rw [show _ = [] from h]; rfl
  | (_, _) :: _, _, ⟨v, r, h1, _, h3⟩ => by rw [h1, List.length_cons, List.length_cons, h3.len]
theorem FzM.keys : ∀ {kvs : List (Key × D)} {ks : List (Key × V)}, FzM K H W kvs ks → kvs.map (·.1) = ks.map (·.1)
  | [], _, h => by rw [show _ = [] from h]; rfl
  | (_, _) :: _, _, ⟨v, r, h1, _, h3⟩ => by rw [h1, List.map_cons, List.map_cons, h3.keys]
theorem FzM.getV : ∀ {kvs : List (Key × D)} {ks : List (Key × V)} {i : Nat} {k : Key} {v : V}, FzM K H W kvs ks → ks[i]? = some (k, v) → ∃ d, kvs[i]? = some (k, d) ∧ Fz K H W d v
  | [], _, i, k, v, h, e => by
    rw [show _ = [] from h] at e
    simp at e
  | (_, x) :: _, _, 0, k, v, ⟨u, r, h1, h2, h3⟩, e => by
    rw [h1] at e
    cases e
    exact ⟨x, rfl, h2⟩
  | (_, _) :: _, _, i + 1, k, v, ⟨u, r, h1, h2, h3⟩, e => by
    rw [h1] at e
    obtain ⟨d, hd, q⟩ := h3.getV (i := i) (k := k) (v := v) (by simpa using e)
    exact ⟨d, by simpa using hd, q⟩
/-- what stands at a key, on both sides -/
def FzO (K : PySem.W.Frag) (H : Hp) (W : AS) : Option D → Option V → Prop
  | some d, some v => Fz K H W d v
  | none, none => True
  | _, _ => False
theorem FzM.val (k : Key) : ∀ {kvs : List (Key × D)} {ks : List (Key × V)}, FzM K H W kvs ks → FzO K H W (dVal kvs k) (valV ks k)
  | [], _, h => by rw [show _ = [] from h]; trivial
  | (j, d) :: r, _, ⟨v, s, h1, h2, h3⟩ => by
    rw [h1]
    by_cases e : j = k
    · have e1 : dVal ((j, d) :: r) k = some d := by simp [dVal, e]
      rw [e1, valV_pos (p := (j, v)) e]
      exact h2
    · have e1 : dVal ((j, d) :: r) k = dVal r k := by simp [dVal, e]
      rw [e1, valV_neg (p := (j, v)) e]
      exact FzM.val k h3
theorem FzM.snoc (k : Key) (hd : Fz K H W d v) : ∀ {kvs : List (Key × D)} {ks : List (Key × V)}, FzM K H W kvs ks → FzM K H W (kvs ++ [(k, d)]) (ks ++ [(k, v)])
  | [], _, h => by rw [show _ = [] from h]; exact ⟨v, [], rfl, hd, rfl⟩
  | (j, x) :: r, _, ⟨u, s, h1, h2, h3⟩ => by rw [h1]; exact ⟨u, _, rfl, h2, FzM.snoc k hd h3⟩
theorem FzM.repl (k : Key) (hd : Fz K H W d v) : ∀ {kvs : List (Key × D)} {ks : List (Key × V)}, FzM K H W kvs ks → FzM K H W (kvs.map fun kv => if kv.1 = k then (kv.1, d) else kv) (ks.map fun kv => if kv.1 = k then (kv.1, v) else kv)
  | [], _, h => by rw [show _ = [] from h]; rfl
  | (j, x) :: r, _, ⟨u, s, h1, h2, h3⟩ => by
    rw [h1, List.map_cons, List.map_cons]
    by_cases e : j = k
    · rw [if_pos e, if_pos e]
      exact ⟨v, _, rfl, hd, FzM.repl k hd h3⟩
    · rw [if_neg e, if_neg e]
      exact ⟨u, _, rfl, h2, FzM.repl k hd h3⟩
theorem FzM.any (k : Key) : ∀ {kvs : List (Key × D)} {ks : List (Key × V)}, FzM K H W kvs ks → (kvs.any fun kv => decide (kv.1 = k)) = (ks.any fun kv => decide (kv.1 = k))
  | [], _, h => by rw [show _ = [] from h]; rfl
  | (j, x) :: r, _, ⟨u, s, h1, h2, h3⟩ => by rw [h1, List.any_cons, List.any_cons, FzM.any k h3]
theorem FzM.set (k : Key) (hd : Fz K H W d v) {kvs : List (Key × D)} {ks : List (Key × V)} (h : FzM K H W kvs ks) : FzM K H W (dSet kvs k d) (putK ks k v) := by
  unfold dSet putK
  rw [h.any k]
  split
  · exact h.repl k hd
  · exact h.snoc k hd
theorem dSet_mem {kvs : List (Key × D)} {x : Key × D} (h : x ∈ dSet kvs k d) : x.2 = d ∨ x ∈ kvs := by
  unfold dSet at h
  split at h
  · obtain ⟨y, hy, e⟩ := List.mem_map.mp h
    by_cases c : y.1 = k
    · rw [if_pos c] at e
      rw [← e]
      exact .inl rfl
    · rw [if_neg c] at e
      rw [← e]
      exact .inr hy
  · rcases List.mem_append.mp h with q | q
    · exact .inr q
    · rw [List.mem_singleton.mp q]
      exact .inl rfl
theorem dVal_mem {kvs : List (Key × D)} (h : dVal kvs k = some d) : (k, d) ∈ kvs := by
  unfold dVal at h
  obtain ⟨p, hp, e⟩ := Option.map_eq_some_iff.mp h
  have h1 := List.mem_of_find?_eq_some hp
  have h2 : p.1 = k := by
    have := List.find?_some (p := fun kv : Key × D => decide (kv.1 = k)) hp
    exact of_decide_eq_true this
  rw [← e, ← h2]
  exact h1
end
/-! ### x in d, d[x] -/
def rDIn (neg : Bool) : R2 := fun x y H Q => ∃ a o, y = .ref a ∧ DGet H a x o ∧ Q (.bl (if neg = true then !o.isSome else o.isSome)) H
section
variable {X : Cx}
theorem op_din (hu : X.A.units + 1 < cLine) : OpR X (compareOp .In) (rDIn false) := by
  intro pins s σ H x y v u Q I rx ry h
  obtain ⟨a, o, rfl, g, q⟩ := h
  cases ry
  exact d_in hu I g rx fun s' I' => ⟨.bl _, H, I', rfl, q⟩
theorem op_dnin (hu : X.A.units + 1 < cLine) : OpR X (compareOp .NotIn) (rDIn true) := by
  intro pins s σ H x y v u Q I rx ry h
  obtain ⟨a, o, rfl, g, q⟩ := h
  cases ry
  exact d_notIn hu I g rx fun s' I' => ⟨.bl _, H, I', rfl, q⟩
end
def dInD (neg : Bool) (x c : D) : Option D := match c, dK x with
  | .dic kvs, some k => some (.bl (if neg = true then !(dVal kvs k).isSome else (dVal kvs k).isSome))
  | _, _ => none
def dGet (c x : D) : Option D := match c, dK x with
  | .dic kvs, some k => dVal kvs k
  | _, _ => none
@[simp] theorem dInD_r (neg : Bool) (x : D) (kvs : List (Key × D)) : dInD neg x (.dic kvs) = (dK x).map fun k => .bl (if neg = true then !(dVal kvs k).isSome else (dVal kvs k).isSome) := by
  unfold dInD
  cases dK x <;> rfl
@[simp] theorem dGet_r (x : D) (kvs : List (Key × D)) : dGet (.dic kvs) x = (dK x).bind (dVal kvs) := by
  unfold dGet
  cases dK x <;> rfl
section
variable {K : PySem.W.Frag} {t u : Ty}
theorem din_s (neg : Bool) : OpS K (rDIn neg) (dInD neg) t u .im := fun H W x y da db d hx hy _ _ hf => by
  cases db with
  | dic kvs =>
    cases hk : dK da with
    | none => rw [dInD_r, hk] at hf; cases hf
    | some k =>
      rw [dInD_r, hk] at hf
      cases hf
      obtain ⟨a, ks, rfl, hr, fm⟩ := hy.dic
      refine ⟨rfl, fun Q q => ⟨a, valV ks k, rfl, .inl ⟨ks, k, hr, hx.key hk, rfl⟩, ?_⟩⟩
      have e : (valV ks k).isSome = (dVal kvs k).isSome := by
        have := fm.val k
        revert this
        cases dVal kvs k <;> cases valV ks k <;> simp [FzO]
      rw [e]
      exact q _ H .refl rfl
  | _ => cases hf
def rDGet : R2 := fun x y H Q => ∃ a v, x = .ref a ∧ DGet H a y (some v) ∧ Q v H
theorem dget_s : OpS K rDGet dGet (.M t) u t := fun H W x y da db d hx hy ht _ hf => by
  cases da with
  | dic kvs =>
    cases hk : dK db with
    | none => rw [dGet_r, hk] at hf; cases hf
    | some k =>
      rw [dGet_r, hk] at hf
      have hf : dVal kvs k = some d := hf
      obtain ⟨a, ks, rfl, hr, fm⟩ := hx.dic
      have fo := fm.val k
      rw [hf] at fo
      obtain ⟨kvs', e, ht⟩ := ht
      cases e
      refine ⟨ht _ (dVal_mem hf), fun Q q => ?_⟩
      cases hv : valV ks k with
      | none => rw [hv] at fo; exact fo.elim
      | some v =>
        rw [hv] at fo
        exact ⟨a, v, rfl, .inl ⟨ks, k, hr, hy.key hk, hv.symm⟩, q v H .refl fo⟩
  | _ => cases hf
end
section
variable {X : Cx} {Z : Zx} {L : Lp} {Γ Γ' : Gx} {o e a b : Expr} {φ φa φb φc : EM D} {t u ta tb tr : Ty} {pos apos cpos : Pos}
theorem se_dget {ka kb : Od} (hu : X.A.units + 1 < cLine) (ha : SO X Z Γ a φa ka) (hb : SO X Z Γ b φb kb) (hs : NoSl b := by intro _ _; rfl) (hka : ka.ok Γ (.M t) := by rfl) (hkb : kb.ok Γ tb := by rfl) :
    SE X Z Γ (.Subscript a b pos) (eBin dGet ka φa kb φb) t := PE.imp (pe_dget hu ha hb hs) fun _ _ _ h => bin_core (r := rDGet) hka hkb dget_s h
/-! ### d.get(k, x) -/
def dGetOr (c x z : D) : Option D := match c, dK x with
  | .dic kvs, some k => some ((dVal kvs k).getD z)
  | _, _ => none
def eDGet2 (k : Od) (φ φa φb : EM D) : EM D := fun ρ => (φ ρ).bind fun d ρ => (φa ρ).bind fun x ρ => (φb ρ).bind fun y ρ => liftO (dGetOr (k.res d ρ) x y) ρ
@[simp] theorem eDGet2_r (k : Od) (φ φa φb : EM D) (ρ : List D) : eDGet2 k φ φa φb ρ = (φ ρ).bind fun d ρ => (φa ρ).bind fun x ρ => (φb ρ).bind fun y ρ => liftO (dGetOr (k.res d ρ) x y) ρ := (rfl)
@[simp] theorem dGetOr_r (x z : D) (kvs : List (Key × D)) : dGetOr (.dic kvs) x z = (dK x).map fun k => (dVal kvs k).getD z := by
  unfold dGetOr
  cases dK x <;> rfl
theorem isD_of {K : PySem.W.Frag} {H : Hp} {W : AS} {d : D} {v : V} (h : Vw K H W d v) (ht : (Ty.M t).has d) : ∃ a, v = .ref a ∧ IsD H a := by
  obtain ⟨kvs, rfl, _⟩ := ht
  obtain ⟨a, ks, rfl, hr, _⟩ := h.dic
  exact ⟨a, rfl, .inl ⟨ks, hr⟩⟩
theorem se_dget2 {k : Od} (hu : X.A.units + 1 < cLine) (ho : SO X Z Γ o φ k) (ha : SE X Z Γ a φa ta) (hb : SE X Z Γ b φb t) (hk : k.ok Γ (.M t) := by rfl)
    (m : M2 X o "get" apos a b cpos := by exact ⟨rfl, rfl, rfl, rfl⟩) : SE X Z Γ (.Call (.Attribute o "get" apos) [a, b] [] cpos) (eDGet2 k φ φa φb) t := PE.imp (pe_dget2 hu ho ha hb m) fun σ H Q ⟨ρ, U, R, q⟩ =>
  ⟨ρ, U, R, Aft.bind q fun d ρ1 v H1 e1 R1 p1 q => by
    obtain ⟨vw1, tw1⟩ := Od.vw hk R1 p1
    obtain ⟨a', rfl, isd⟩ := isD_of vw1 tw1
    refine ⟨a', rfl, isd, ρ1, U, R1, Aft.bind q fun x ρ2 w H2 e2 R2 p2 q => ⟨ρ2, U, R2, Aft.bind q fun y ρ3 z H3 e3 R3 p3 q => ?_⟩⟩
    have p1' := Od.keep (Od.keep p1 e2) e3
    obtain ⟨vw3, tw3⟩ := Od.vw hk R3 p1'
    obtain ⟨kvs, ek, hall⟩ := tw3
    rw [ek] at vw3 q
    have p2' : Vw Z.K H3 (Wa Γ σ U) x w := .inl (Fz.ext (fun _ z => .inl z) e3 p2.1)
    rw [dGetOr_r] at q
    cases hx : dK x with
    | none => rw [hx] at q; exact q.elim
    | some kk =>
      rw [hx] at q
      have q : Aft Z Γ (Pf Z.K t) σ H3 U Q (.ok ((dVal kvs kk).getD y) ρ3) := q
      obtain ⟨a2, ks, e, hr, fm⟩ := vw3.dic
      cases e
      refine ⟨valV ks kk, .inl ⟨ks, kk, hr, p2'.key hx, rfl⟩, ?_⟩
      have fo := fm.val kk
      cases hd : dVal kvs kk with
      | none =>
        rw [hd] at fo q
        cases hv : valV ks kk with
        | none => exact q z H3 .refl R3 p3
        | some v => rw [hv] at fo; exact fo.elim
      | some d' =>
        rw [hd] at fo q
        cases hv : valV ks kk with
        | none => rw [hv] at fo; exact fo.elim
        | some v =>
          rw [hv] at fo
          exact q v H3 .refl R3 ⟨fo, hall _ (dVal_mem hd)⟩⟩
/-! ### new dicts -/
theorem own_newD {K : PySem.W.Frag} {σ : L2.St} {H : Hp} {U : AS} {kvs : List (Key × D)} {ks : List (Key × V)} {p : Addr} {ρ : List D} (R : Rel K Γ U ρ σ H) (hp : H p = none) (f : FzM K H (Wa Γ σ U) kvs ks) : Own K (upd H p (.dK ks)) (Wa Γ σ (UN U p)) (.dic kvs) p :=
  .inr ⟨kvs, ks, rfl, upd_same, FzM.ext (fun _ z => z.elim) (Ext.new (W := fun _ => False) hp) (f.mono fun x z => z.elim (fun z => .inl (.inl z)) fun z => z.elim (fun z => .inl (.inr z)) fun z => .inr (by rw [z]; exact hp))⟩
def eDic0 : EM D := fun ρ => .ok (.dic []) ρ
@[simp] theorem eDic0_r (ρ : List D) : eDic0 ρ = .ok (.dic []) ρ := (rfl)
theorem sn_dic0 : SN X Z Γ (.Dict [] [] pos) eDic0 (.M t) := PE.imp pe_dnewK fun σ H Q ⟨ρ, U, R, q⟩ p hp =>
  q p _ (Ext.new hp) hp (R.new hp) (own_newD R hp rfl) ⟨[], rfl, fun _ h => (List.not_mem_nil h).elim⟩
/-- dict(d) -/
def dDic (d : D) : Option D := match d with
  | .dic kvs => some (.dic kvs)
  | _ => none
def eDicOf (k : Od) (φ : EM D) : EM D := fun ρ => (φ ρ).bind fun d ρ => liftO (dDic (k.res d ρ)) ρ
@[simp] theorem eDicOf_r (k : Od) (φ : EM D) (ρ : List D) : eDicOf k φ ρ = (φ ρ).bind fun d ρ => liftO (dDic (k.res d ρ)) ρ := (rfl)
@[simp] theorem dDic_r (kvs : List (Key × D)) : dDic (.dic kvs) = some (.dic kvs) := (rfl)
/-! ### d[k] = x -/
theorem Rel.updD {K : PySem.W.Frag} {U : AS} {ρ : List D} {σ : L2.St} {H : Hp} {a : Addr} (R : Rel K Γ U ρ σ H) {i : Nat} {ks ks' : List (Key × V)} {kvs' : List (Key × D)} (hi : Γ[i]? = some (.own t)) (hσ : σ[i]? = some (some (.ref a))) (hH : H a = some (.dK ks)) (f : FzM K H (Wa Γ σ U) kvs' ks') (ht : t.has (.dic kvs')) :
    Rel K Γ U (ρ.set i (.dic kvs')) σ (upd H a (.dK ks')) ∧ Ext H (Wr Γ σ) (upd H a (.dK ks')) := by
  have e0 : Ext H (Wr Γ σ) (upd H a (.dK ks')) := Ext.upd hH (fun _ z => by cases z) ⟨i, t, hi, hσ⟩
  have e : Ext H (Wa Γ σ U) (upd H a (.dK ks')) := e0.mono fun x z => .inl z
  refine ⟨⟨by rw [List.length_set]; exact R.len, R.glen, fun j u h => ?_, fun j u h => ?_, R.inj, fun x z => e.there x (R.trk x z)⟩, e0⟩
  · have n : i ≠ j := fun z => by
      subst z
      rw [hi] at h
      cases h
    obtain ⟨d, v, h1, h2, h3, h4⟩ := R.fz j u h
    exact ⟨d, v, by rw [List.getElem?_set_ne n]; exact h1, h2, Fz.ext (fun _ z => z) e h3, h4⟩
  · obtain ⟨d, b, h1, h2, h3, h4, h5⟩ := R.own j u h
    by_cases n : i = j
    · subst n
      rw [hi] at h
      cases h
      rw [hσ] at h2
      cases h2
      exact ⟨_, a, List.getElem?_set_self (List.getElem?_eq_some_iff.mp h1).1, hσ, .inr ⟨kvs', ks', rfl, upd_same, FzM.ext (fun _ z => z) e f⟩, ht, h5⟩
    · have nb : b ≠ a := fun z => by
        subst z
        exact n (R.inj i j t u b hi h hσ h2)
      refine ⟨d, b, by rw [List.getElem?_set_ne n]; exact h1, h2, ?_, h4, h5⟩
      rcases h3 with ⟨ds, xs, k1, k2, k3⟩ | ⟨ds, xs, k1, k2, k3⟩
      · exact .inl ⟨ds, xs, k1, by rw [upd_ne nb]; exact k2, FzL.ext (fun _ z => z) e k3⟩
      · exact .inr ⟨ds, xs, k1, by rw [upd_ne nb]; exact k2, FzM.ext (fun _ z => z) e k3⟩
def sPutD (i : Nat) (φi φ : EM D) : SM := fun ρ => (φ ρ).bind fun d ρ => (φi ρ).bind fun k ρ => match ρ.getD i .non, dK k with
  | .dic kvs, some k => if kvs.length < sizeLine then .ok .nx (ρ.set i (.dic (dSet kvs k d))) else .bad
  | _, _ => .bad
@[simp] theorem sPutD_r (i : Nat) (φi φ : EM D) (ρ : List D) : sPutD i φi φ ρ = (φ ρ).bind fun d ρ => (φi ρ).bind fun k ρ => match ρ.getD i .non, dK k with
  | .dic kvs, some k => if kvs.length < sizeLine then .ok .nx (ρ.set i (.dic (dSet kvs k d))) else .bad
  | _, _ => .bad := (rfl)
theorem ss_putD {i : Nat} {pos' : Pos} {φi : EM D} (hu : X.A.units + 1 < cLine) (ho : SO X Z Γ o eSl (.s i)) (hi : SE X Z Γ a φi ta) (he : SE X Z Γ e φ u) (hΓ : Γ[i]? = some (.own (.M t)) := by rfl) (hut : u.le t = true := by rfl) (hX : Gx.le Γ Z.ΓX = true := by rfl)
    (hs : swapsWith e (some (.Subscript o a pos')) pos.line X.env = pure false := by rfl) :
    SS X Z L Γ Γ (.Assign [.Subscript o a pos'] e pos) (sPutD i φi φ) := PS.imp (ps_dput hu ho hi he hs) fun D σ H ⟨ρ, U, R, q⟩ =>
  ⟨ρ, U, R, SAft.ofE hX q fun d ρ1 v H1 e1 R1 p1 q => ⟨ρ1, U, R1, fun w H2 e2 R2 p2 => ⟨ρ1, U, R2, SAft.ofE hX (q.later ⟨e2, fun _ _ _ => rfl⟩ fun _ z => .inl z) fun k ρ3 y H3 e3 R3 p3 q3 => by
    obtain ⟨dd, l, h1, h2, h3, h4, _⟩ := R3.own i _ hΓ
    have hσ : σ[i]? = some (some w) := p2
    rw [h2] at hσ
    cases hσ
    rw [getD_of h1] at q3
    obtain ⟨kvs, rfl, hds⟩ := h4
    rcases h3 with ⟨ds2, xs, k1, k2, k3⟩ | ⟨ds2, ks, k1, k2, k3⟩
    · cases k1
    · cases k1
      cases hk : dK k with
      | none =>
        rw [hk] at q3
        exact q3.elim
      | some kk =>
        rw [hk] at q3
        have q3 : SAft Z L Γ Γ σ H3 U D (if kvs.length < sizeLine then .ok .nx (ρ3.set i (.dic (dSet kvs kk d))) else .bad) := q3
        by_cases c : kvs.length < sizeLine
        · rw [if_pos c] at q3
          have fv : Fz Z.K H3 (Wa Γ σ U) d v := Fz.ext (fun _ z => .inl z) (e2.trans e3) p1.1
          obtain ⟨Rn, en⟩ := Rel.updD R3 hΓ h2 k2 (k3.set kk fv) ⟨_, rfl, fun x hx => (dSet_mem hx).elim (fun z => by rw [z]; exact Ty.le_has hut p1.2) (hds x)⟩
          have vk : Vw Z.K H3 (Wa Γ σ U) k y := .inl p3.1
          exact ⟨l, _, rfl, .inl ⟨ks, kk, k2, vk.key hk, by rw [← k3.len]; exact c, rfl⟩, q3 σ _ ⟨en, fun _ _ _ => rfl⟩ (fun _ z => .inl z) Rn⟩
        · rw [if_neg c] at q3
          exact q3.elim⟩⟩⟩
end
end VL
/-! VL30: dicts gone through, compared. -/
namespace VL
open PySem L2
/-- the same to be read -/
structure HSim (H H' : Hp) : Prop where
  tup : ∀ a xs, H a = some (.tup xs) → H' a = some (.tup xs)
  lst : ∀ a xs, Rd H a (.lst xs) → Rd H' a (.lst xs)
  dic : ∀ a ks, Rd H a (.dK ks) → Rd H' a (.dK ks)
  ther : ∀ a, H a ≠ none → H' a ≠ none
section
variable {K : PySem.W.Frag} {H H' : Hp} {W : AS} {a : Addr} {ks : List (Key × V)} {od : Obj}
theorem LstAt.sim {xs : List V} (s : HSim H H') (h : LstAt K H W a xs) : LstAt K H' W a xs := h.imp (fun h => ⟨s.lst a xs h.1, h.2⟩) id
theorem TupAt.sim {xs : List V} (s : HSim H H') (h : TupAt K H a xs) : TupAt K H' a xs := h.imp (fun h => s.tup a xs h) id
mutual
theorem Fz.sim (s : HSim H H') : ∀ {d : D} {v : V}, Fz K H W d v → Fz K H' W d v
  | .non, _, h => h
  | .bl _, _, h => h
  | .int _, _, h => h
  | .str _, _, h => h
  | .tup _, _, ⟨a, xs, h1, h2, h3⟩ => ⟨a, xs, h1, h2.sim s, FzL.sim s h3⟩
  | .lst _, _, ⟨a, xs, h1, h2, h3⟩ => ⟨a, xs, h1, h2.sim s, FzL.sim s h3⟩
  | .dic _, _, ⟨a, xs, h1, h2, h3, h4⟩ => ⟨a, xs, h1, s.dic _ _ h2, h3, FzM.sim s h4⟩
theorem FzL.sim (s : HSim H H') : ∀ {ds : List D} {vs : List V}, FzL K H W ds vs → FzL K H' W ds vs
  | [], _, h => h
  | _ :: _, _, ⟨v, r, h1, h2, h3⟩ => ⟨v, r, h1, Fz.sim s h2, FzL.sim s h3⟩
theorem FzM.sim (s : HSim H H') : ∀ {ds : List (Key × D)} {vs : List (Key × V)}, FzM K H W ds vs → FzM K H' W ds vs
  | [], _, h => h
  | (_, _) :: _, _, ⟨v, r, h1, h2, h3⟩ => ⟨v, r, h1, Fz.sim s h2, FzM.sim s h3⟩
end
theorem HSim.lock (h : H a = some (.dK ks)) : HSim H (upd H a (.frz od (.dK ks))) := by
  have e : upd H a (.frz od (.dK ks)) a = some (.frz od (.dK ks)) := upd_same
  refine ⟨fun b xs q => ?_, fun b xs q => ?_, fun b ls q => ?_, fun b q => ?_⟩
  · by_cases n : b = a
    · subst n; rw [h] at q; cases q
    · rw [upd_ne n]; exact q
  · by_cases n : b = a
    · subst n
      rcases q with q | ⟨o, q⟩ <;> (rw [h] at q; cases q)
    · rcases q with q | ⟨o, q⟩
      · exact .inl (by rw [upd_ne n]; exact q)
      · exact .inr ⟨o, by rw [upd_ne n]; exact q⟩
  · by_cases n : b = a
    · subst n
      rcases q with q | ⟨o, q⟩
      · rw [h] at q; cases q
        exact .inr ⟨od, e⟩
      · rw [h] at q; cases q
    · rcases q with q | ⟨o, q⟩
      · exact .inl (by rw [upd_ne n]; exact q)
      · exact .inr ⟨o, by rw [upd_ne n]; exact q⟩
  · by_cases n : b = a
    · subst n; rw [e]; simp
    · rw [upd_ne n]; exact q
theorem HSim.unlock (h : H a = some (.frz od (.dK ks))) : HSim H (upd H a (.dK ks)) := by
  have e : upd H a (.dK ks) a = some (.dK ks) := upd_same
  refine ⟨fun b xs q => ?_, fun b xs q => ?_, fun b ls q => ?_, fun b q => ?_⟩
  · by_cases n : b = a
    · subst n; rw [h] at q; cases q
    · rw [upd_ne n]; exact q
  · by_cases n : b = a
    · subst n
      rcases q with q | ⟨o, q⟩ <;> (rw [h] at q; cases q)
    · rcases q with q | ⟨o, q⟩
      · exact .inl (by rw [upd_ne n]; exact q)
      · exact .inr ⟨o, by rw [upd_ne n]; exact q⟩
  · by_cases n : b = a
    · subst n
      rcases q with q | ⟨o, q⟩
      · rw [h] at q; cases q
      · rw [h] at q; cases q
        exact .inl e
    · rcases q with q | ⟨o, q⟩
      · exact .inl (by rw [upd_ne n]; exact q)
      · exact .inr ⟨o, by rw [upd_ne n]; exact q⟩
  · by_cases n : b = a
    · subst n; rw [e]; simp
    · rw [upd_ne n]; exact q
theorem Own.sim {d : D} {p : Addr} (s : HSim H H') (n : H' p = H p) (h : Own K H W d p) : Own K H' W d p := by
  rcases h with ⟨ds, xs, h1, h2, h3⟩ | ⟨ds, xs, h1, h2, h3⟩
  · exact .inl ⟨ds, xs, h1, by rw [n]; exact h2, h3.sim s⟩
  · exact .inr ⟨ds, xs, h1, by rw [n]; exact h2, h3.sim s⟩
/-- no slot's own is locked -/
theorem Own.nofrz {d : D} {p : Addr} (h : Own K H W d p) {o : Obj} {u : HO} : H p ≠ some (.frz o u) := fun z => by
  rcases h with ⟨ds, xs, h1, h2, h3⟩ | ⟨ds, xs, h1, h2, h3⟩ <;> (rw [z] at h2; cases h2)
variable {Γ : Gx} {U : AS} {ρ : List D} {σ : L2.St}
theorem Rel.sim (R : Rel K Γ U ρ σ H) (s : HSim H H') (n : ∀ p d, Own K H (Wa Γ σ U) d p → Wr Γ σ p → H' p = H p) : Rel K Γ U ρ σ H' where
  len := R.len
  glen := R.glen
  fz := fun i t h => let ⟨d, v, h1, h2, h3, h4⟩ := R.fz i t h; ⟨d, v, h1, h2, h3.sim s, h4⟩
  own := fun i t h => let ⟨d, v, h1, h2, h3, h4⟩ := R.own i t h; ⟨d, v, h1, h2, h3.sim s (n v d h3 ⟨i, t, h, h2⟩), h4⟩
  inj := R.inj
  trk := fun a h => s.ther a (R.trk a h)
theorem Rel.lock (R : Rel K Γ U ρ σ H) (h : H a = some (.dK ks)) (n : ¬ Wr Γ σ a) : Rel K Γ U ρ σ (upd H a (.frz od (.dK ks))) :=
  R.sim (HSim.lock h) fun p d _ w => upd_ne fun z => n (z ▸ w)
theorem Rel.unlock (R : Rel K Γ U ρ σ H) (h : H a = some (.frz od (.dK ks))) : Rel K Γ U ρ σ (upd H a (.dK ks)) :=
  R.sim (HSim.unlock h) fun p d o _ => upd_ne fun z => o.nofrz (z ▸ h)
end
/-- the ends within a lock -/
def lockD (D : Ends) (a : Addr) (od : Obj) (u : HO) : Ends := ⟨fun σ' H' => H' a = some (.frz od u) ∧ D.nx σ' (upd H' a u), fun v H' => H' a = some (.frz od u) ∧ D.rt v (upd H' a u), fun σ' H' => H' a = some (.frz od u) ∧ D.bk σ' (upd H' a u), fun σ' H' => H' a = some (.frz od u) ∧ D.ct σ' (upd H' a u)⟩
section
variable {X : Cx} {Z : Zx} {L : Lp} {Γ Γ' : Gx} {σ : L2.St} {H : Hp} {U : AS} {a : Addr} {ks : List (Key × V)} {od : Obj}
theorem unlock_stp {σ' : L2.St} {H' : Hp} (h : H a = some (.dK ks)) (n : ¬ Wr Γ σ a) (st : Stp Z Γ σ (upd H a (.frz od (.dK ks))) σ' H') : H' a = some (.frz od (.dK ks)) ∧ Stp Z Γ σ H σ' (upd H' a (.dK ks)) := by
  have e : H' a = some (.frz od (.dK ks)) := st.ext.keep a _ upd_same n
  refine ⟨e, ⟨⟨fun b o q w => ?_, fun b xs q => ?_, fun b q => ?_⟩, st.io⟩⟩
  · by_cases z : b = a
    · subst z; rw [upd_same, ← h]; exact q
    · rw [upd_ne z]
      exact st.ext.keep b o (by rw [upd_ne z]; exact q) w
  · by_cases z : b = a
    · subst z; rw [h] at q; cases q
    · rw [upd_ne z]
      exact st.ext.tup b xs (by rw [upd_ne z]; exact q)
  · by_cases z : b = a
    · subst z; rw [upd_same]; simp
    · rw [upd_ne z]
      exact st.ext.there b (by rw [upd_ne z]; exact q)
theorem unlock_nw {σ' : L2.St} {Γ1 : Gx} (h : H a = some (.dK ks)) (nw : Nw Γ σ (upd H a (.frz od (.dK ks))) Γ1 σ') : Nw Γ σ H Γ1 σ' := fun x w => (nw x w).imp id fun q => by
  by_cases z : x = a
  · subst z; rw [upd_same] at q; cases q
  · rw [upd_ne z] at q; exact q
theorem SAft.lock {D : Ends} {r : R Fl} (hX : ∀ c p cls o H, ¬ Z.XR c p cls o H) (h : H a = some (.dK ks)) (n : ¬ Wr Γ σ a) (q : SAft Z L Γ Γ' σ H U D r) : SAft Z L Γ Γ' σ (upd H a (.frz od (.dK ks))) U (lockD D a od (.dK ks)) r := by
  cases r with
  | bad => exact q
  | exc c p ρ' => exact fun cls o σ' H' _ _ _ xr => absurd xr (hX c p cls o H')
  | ok f ρ' =>
    cases f with
    | nx => exact fun σ' H' st nw R => ⟨(unlock_stp h n st).1, q σ' _ (unlock_stp h n st).2 (unlock_nw h nw) (R.unlock (unlock_stp h n st).1)⟩
    | bk => exact fun σ' H' st nw R => ⟨(unlock_stp h n st).1, q σ' _ (unlock_stp h n st).2 (unlock_nw h nw) (R.unlock (unlock_stp h n st).1)⟩
    | ct => exact fun σ' H' st nw R => ⟨(unlock_stp h n st).1, q σ' _ (unlock_stp h n st).2 (unlock_nw h nw) (R.unlock (unlock_stp h n st).1)⟩
    | rt d =>
      intro v σ' H' st ro
      obtain ⟨e, st'⟩ := unlock_stp h n st
      refine ⟨e, q v σ' _ st' ?_⟩
      unfold Rok at ro ⊢
      revert ro
      cases Z.rk with
      | fz t => exact fun ro => ⟨ro.1.unlock e, ro.2.1.sim (HSim.unlock e), ro.2.2⟩
      | nw t =>
        intro ⟨p, h1, h2, h3, h4, h5⟩
        refine ⟨p, h1, h2.imp id fun q => ?_, h3.unlock e, h4.sim (HSim.unlock e) (upd_ne fun z => h4.nofrz (z ▸ e)), h5⟩
        by_cases z : p = a
        · subst z; rw [upd_same] at q; cases q
        · rw [upd_ne z] at q; exact q
      | no t =>
        intro ro
        rcases ro with ⟨h1, h2, h3⟩ | ⟨p, h1, h2, h3, h4, h5⟩
        · exact .inl ⟨h1, h2, h3.unlock e⟩
        · refine .inr ⟨p, h1, h2.imp id fun q => ?_, h3.unlock e, h4.sim (HSim.unlock e) (upd_ne fun z => h4.nofrz (z ▸ e)), h5⟩
          by_cases z : p = a
          · subst z; rw [upd_same] at q; cases q
          · rw [upd_ne z] at q; exact q
/-- what a loop goes through: of the dict in a slot -/
def eItD (f : List (Key × D) → List D) (i : Nat) : EM (List D) := fun ρ => match ρ.getD i .non with
  | .dic kvs => .ok (f kvs) ρ
  | _ => .bad
def itemsD (kvs : List (Key × D)) : List D := kvs.map fun kv => .tup [kD kv.1, kv.2]
def keysD (kvs : List (Key × D)) : List D := kvs.map fun kv => kD kv.1
def valsD (kvs : List (Key × D)) : List D := kvs.map (·.2)
@[simp] theorem eItD_r (f : List (Key × D) → List D) (i : Nat) (ρ : List D) : eItD f i ρ = match ρ.getD i .non with
  | .dic kvs => .ok (f kvs) ρ
  | _ => .bad := (rfl)
def iDic (J : Addr → Obj → List (Key × V) → It) (td : TE) : L2.TI := fun σ H Rr => td σ H fun x H1 => ∃ d o kvs, x = .ref d ∧ H1 d = some (.frz o (.dK kvs)) ∧ Rr (J d o kvs) H1
/-- the walk of such a kind goes through what f tells -/
def ItD (Z : Zx) (J : Addr → Obj → List (Key × V) → It) (f : List (Key × D) → List D) (t u : Ty) : Prop := ∀ (Γ : Gx) (σ : L2.St) (U : AS) (H : Hp) (a : Addr) (o : Obj) (kvs : List (Key × D)) (ks : List (Key × V)),
  H a = some (.frz o (.dK ks)) → ¬ Wa Γ σ U a → FzM Z.K H (Wa Γ σ U) kvs ks → (∀ x ∈ kvs, t.has x.2) → ItOk Z (Wa Γ σ U) (Wr Γ σ) (J a o ks) (f kvs) u H
theorem ss_forD {iter tg : Expr} {body : List Stmt} {tp : TP} {g : TG} {β : SM} {i : Nat} {t u : Ty} {pos : Pos} {J : Addr → Obj → List (Key × V) → It} {f : List (Key × D) → List D} (hp : PassesOwn (model X.prog X.w) X.A X.env X.xe) (hc : X.calm = true)
    (hi : PI X tg iter (iDic J (tVar i))) (hJ : ItD Z J f t u) (hΓ : Γ[i]? = some (.fz (.M t))) (hXR : ∀ c p cls o H, ¬ Z.XR c p cls o H) (hg : GSx X Z tp tg g)
    (hb : SSs X Z ⟨Γ, Γ⟩ (tp.ctx u Γ) Γ body β) (hr : tp.free Z.Γr = true := by rfl) (hs : ∀ x, foldedSetIterable iter X.env x = pure x := by intro _; rfl) :
    SS X Z L Γ Γ (.For tg iter body [] pos) (sFor (eItD f i) tp β) := by
  have core : ∀ (D : Ends) (σ : L2.St) (H : Hp) (U : AS) (ρ : List VL.D) (kvs : List (Key × VL.D)) (a : Addr) (ks : List (Key × V)) (o : Obj), Rel Z.K Γ U ρ σ H → σ[i]? = some (some (.ref a)) → H a = some (.frz o (.dK ks)) → ¬ Wa Γ σ U a → FzM Z.K H (Wa Γ σ U) kvs ks → (∀ x ∈ kvs, t.has x.2) →
      SAft Z L Γ Γ σ H U D (sForL tp β (f kvs) ρ) → tFor (iDic J (tVar i)) g (Sof Z ⟨Γ, Γ⟩ (tp.ctx u Γ) Γ β) D σ H := fun D σ H U ρ kvs a ks o R hσ ha hn fm hall q =>
    ⟨.ref a, hσ, a, o, ks, rfl, ha, sForL_core hr hg.gs (hJ Γ σ U H a o kvs ks ha hn fm hall) R q⟩
  have base := ps_for (pos := pos) hp hc hi hg.pg hb hs
  refine ⟨fun pins s σ H D I ⟨ρ, U, R, q⟩ => ?_⟩
  obtain ⟨d, v, h1, h2, h3, kvs, e, hall⟩ := R.fz i _ hΓ
  subst e
  obtain ⟨a, ks, rfl, hrd, hn, fm⟩ := h3
  have q : SAft Z L Γ Γ σ H U D ((eItD f i ρ).bind (sForL tp β)) := q
  rw [eItD_r, getD_of h1] at q
  have q : SAft Z L Γ Γ σ H U D (sForL tp β (f kvs) ρ) := q
  rcases hrd with hd | ⟨o, hd⟩
  · have nw : ¬ Wr Γ σ a := fun z => hn (.inl z)
    refine (ps_lock base).run pins s σ H D I ⟨a, .dK ks, hd, trivial, fun od => ?_⟩
    exact core _ σ _ U ρ kvs a ks od (R.lock hd nw) h2 upd_same hn (fm.sim (HSim.lock hd)) hall (q.lock hXR hd nw)
  · exact base.run pins s σ H D I (core D σ H U ρ kvs a ks o R h2 hd hn fm hall q)
theorem itD_items {t : Ty} : ItD Z Iti itemsD t (.T [.im, t]) := fun Γ σ U H a o kvs ks ha hn fm hall =>
  it_pair (walk_items (o := o)) (by unfold itemsD; rw [List.length_map, fm.len]) (fun H' e => e.keep a _ ha fun z => hn (.inl z)) fun i hi => by
    have hi' : i < kvs.length := by rw [fm.len]; exact hi
    refine ⟨kD kvs[i].1, kvs[i].2, by unfold itemsD; rw [List.getElem?_map, List.getElem?_eq_getElem hi']; rfl, by cases kvs[i].1 <;> rfl, hall _ (List.getElem_mem hi'), fun H' W' vx vy e hw h1 h2 => ?_⟩
    obtain ⟨kv, hk⟩ : ∃ kv, ks[i]? = some kv := ⟨ks[i], List.getElem?_eq_getElem hi⟩
    obtain ⟨k, v⟩ := kv
    rw [hk] at h1 h2
    cases h1
    cases h2
    obtain ⟨d, hd, fd⟩ := fm.getV hk
    rw [List.getElem?_eq_getElem hi'] at hd
    have hd := Option.some.inj hd
    rw [hd]
    exact ⟨Fz.kD, fd.ext2 (fun x z => .inl z) e hw⟩
theorem itD_keys {t : Ty} : ItD Z Itk keysD t .im := fun Γ σ U H a o kvs ks ha hn fm hall => by
  refine ⟨_, _, by unfold keysD; rw [List.length_map, fm.len]; exact walk_keys, fun H' e => e.keep a _ ha fun z => hn (.inl z), fun d hd => ?_, fun i H1 x H2 W' e hw y => ?_⟩
  · obtain ⟨p, _, rfl⟩ := List.mem_map.mp hd
    cases p.1 <;> rfl
  · obtain ⟨e2, k, v, hk, rfl⟩ := y
    subst e2
    obtain ⟨d, hd, _⟩ := fm.getV hk
    exact ⟨.refl, kD k, by unfold keysD; rw [List.getElem?_map, hd]; rfl, Fz.kD⟩
theorem pi_itemsD {i : Nat} {e : Expr} {elts : List Expr} {kk : Nat} {tpos apos cpos : Pos} (he : PE X e (tVar i)) (hbase : attributeBase e "items" X.env (eval e X.env) = eval e X.env := by rfl) (hline : (apos.endLine == cpos.line) = true := by rfl) :
    PI X (.Tuple elts kk tpos) (.Call (.Attribute e "items" apos) [] [] cpos) (iDic Iti (tVar i)) := pi_items he hbase hline
theorem pi_keysD {i : Nat} {e tg : Expr} (he : PE X e (tVar i)) : PI X tg e (iDic Itk (tVar i)) := PI.imp (pi_keys he) fun σ H Rr ⟨v, h, d, o, kvs, h1, h2, h3⟩ => ⟨v, h, d, o, h1, .inl ⟨kvs, h2, h3⟩⟩
end
/-! ### len, list, dict of a dict -/
section
variable {X : Cx} {K : PySem.W.Frag} {t u : Ty}
theorem call_lenDR : CallR X (.builtin "len") (fun xs H Q => ∃ a kvs, xs = [V.ref a] ∧ Rd H a (.dK kvs) ∧ Q (.int kvs.length) H) := by
  intro pins s σ H xs us Q I r h
  obtain ⟨a, kvs, rfl, hd, q⟩ := h
  rw [Vals.ref1 r]
  exact d_len I hd fun t s' I' => ⟨.int kvs.length, H, I', ⟨t, rfl⟩, q⟩
def fLenD : List D → Option D
  | [.dic kvs] => some (.int kvs.length)
  | _ => none
@[simp] theorem fLenD_r (kvs : List (Key × D)) : fLenD [.dic kvs] = some (.int kvs.length) := (rfl)
theorem lenD_s : CaS K (fun xs H Q => ∃ a kvs, xs = [V.ref a] ∧ Rd H a (.dK kvs) ∧ Q (.int kvs.length) H) fLenD [t] .im := fun H W xs ds d h hf => by
  obtain ⟨d', v, rfl, rfl, hv, _⟩ := h.one
  cases d' with
  | dic kvs =>
    cases hf
    obtain ⟨a, ks, rfl, h1, h2⟩ := hv.dic
    refine ⟨rfl, fun Q q => ⟨a, ks, rfl, h1, q _ H .refl ?_⟩⟩
    rw [h2.len]
    rfl
  | _ => cases hf
def fKeys : List D → Option (List D)
  | [.dic kvs] => some (keysD kvs)
  | _ => none
@[simp] theorem fKeys_r (kvs : List (Key × D)) : fKeys [.dic kvs] = some (keysD kvs) := (rfl)
theorem keys_fz {H : Hp} {W : AS} : ∀ {kvs : List (Key × D)} {ks : List (Key × V)}, FzM K H W kvs ks → FzL K H W (keysD kvs) (ks.map fun kv => kV kv.1)
  | [], _, h => by rw [show _ = [] from h]; rfl
  | (k, _) :: _, _, ⟨v, r, h1, _, h3⟩ => by rw [h1]; exact ⟨kV k, _, rfl, Fz.kD, keys_fz h3⟩
theorem listD_s : CaN K (fun xs H Q => ∃ (a : Addr) (kvs : List (Key × V)), xs = [.ref a] ∧ Rd H a (.dK kvs) ∧ ∀ p, H p = none → Q (.ref p) (upd H p (.lst (kvs.map fun kv => kV kv.1)))) fKeys [t] .im := fun H W xs ds es h hf => by
  obtain ⟨d', v, rfl, rfl, hv, _⟩ := h.one
  cases d' with
  | dic kvs =>
    cases hf
    obtain ⟨a, ks, rfl, h1, h2⟩ := hv.dic
    refine ⟨fun d hd => ?_, fun Q q => ⟨a, ks, rfl, h1, fun p hp => q p _ hp (keys_fz h2)⟩⟩
    obtain ⟨p, _, rfl⟩ := List.mem_map.mp hd
    cases p.1 <;> rfl
  | _ => cases hf
end
section
variable {X : Cx} {Z : Zx} {L : Lp} {Γ Γ' : Gx} {e : Expr} {es : List Expr} {φ : EM D} {ψ : EM (List D)} {t u : Ty} {pos p : Pos} {ks : List AK} {x : Str}
/-- dict(d) -/
def fDic : List D → Option (List (Key × D))
  | [.dic kvs] => some kvs
  | _ => none
def eCD (ks : List AK) (ψ : EM (List D)) : EM D := fun ρ => (ψ ρ).bind fun ds ρ => liftO ((fDic (AK.resL ks ds ρ)).map D.dic) ρ
@[simp] theorem eCD_r (ks : List AK) (ψ : EM (List D)) (ρ : List D) : eCD ks ψ ρ = (ψ ρ).bind fun ds ρ => liftO ((fDic (AK.resL ks ds ρ)).map D.dic) ρ := (rfl)
@[simp] theorem fDic_r (kvs : List (Key × D)) : fDic [.dic kvs] = some kvs := (rfl)
theorem sn_dicOf (hg : Gl X x) (hm : X.mg x = none) (hv : bootBuiltins x = some (.type "dict")) (ha : SA X Z Γ (e :: es) ψ ks) (ok : AK.okG Γ ks = true := by rfl) (ht : ks.map (AK.tyG Γ) = [.M t] := by rfl) (hn : x ≠ "__name__" := by decide) (hdb : (x == ("__debug__" : Str)) = false := by decide)
    (he : starEach (e :: es) X.env = (false, eval e X.env) :: starEach es X.env := by rfl) (hpl : (backTo pos (starEach es X.env)).any (·.1) = false := by rfl) : SN X Z Γ (.Call (.Name x p) (e :: es) [] pos) (eCD ks ψ) (.M t) :=
  PE.imp (pe_callTy call_dictD hg hm hv ha hn hdb he hpl) fun σ H Q ⟨ρ, U, R, q⟩ => ⟨ρ, U, R, AftN.bind q fun ds ρ1 vs H1 e1 R1 pa q => by
    have va := Pa.vw R1 ok pa
    rw [ht] at va
    obtain ⟨d', v, e1', e2', hv', hh⟩ := va.one
    rw [e1'] at q
    obtain ⟨kvs, rfl, hall⟩ := hh
    have q : AftN Z Γ (.M t) σ H1 U Q (.ok (.dic kvs) ρ1) := q
    obtain ⟨a, ks', rfl, h1, h2⟩ := hv'.dic
    exact ⟨a, ks', e2', h1, fun p hp => q p _ (Ext.new hp) hp (R1.new hp) (own_newD R1 hp h2) ⟨kvs, rfl, hall⟩⟩⟩
end
/-! ### d == e -/
inductive Hits (K : PySem.W.Frag) (H : Hp) (ls : List (Key × V)) : List (Key × V) → Bool → Prop
  | nil : Hits K H ls [] true
  | miss {k : Key} {v : V} {r : List (Key × V)} : valV ls k = none → Hits K H ls ((k, v) :: r) false
  | hit {k : Key} {v w : V} {r : List (Key × V)} {d e : PyData} {b : Bool} : valV ls k = some w → Dp K H v d → Dp K H w e → d.plain = true → e.plain = true → min d.depth e.depth ≤ 150 → Hits K H ls r b → Hits K H ls ((k, v) :: r) (PyData.eqv d e && b)
def rEqDD (K : PySem.W.Frag) : R2 := fun x y H Q => ∃ a b ks ls r, x = .ref a ∧ y = .ref b ∧ Rd H a (.dK ks) ∧ Rd H b (.dK ls) ∧ Hits K H ls ks r ∧ Q (.bl (decide (ks.length = ls.length) && r)) H
theorem hits_keq {X : Cx} {pins : List (Addr × Obj)} {σ : L2.St} {H : Hp} {s : Shared} (I : Inv X pins σ H s) {A : Around} (hu : A.units + 160 < cLine) {ls : List (Key × V)} {vb : List (Key × Value)} (rb : KV ls vb) : ∀ {ks : List (Key × V)} {r : Bool}, Hits X.K H ls ks r → ∀ {va : List (Key × Value)}, KV ks va → PySem.W.KeqHitsP X.prog X.w A s vb va r := by
  intro ks r h
  induction h with
  | nil =>
    intro va ra
    cases ra
    exact .nil
  | @miss k v r hn =>
    intro va ra
    cases ra with
    | @cons p q ps qs h t =>
      obtain ⟨h1, h2⟩ := h
      obtain ⟨key, u⟩ := q
      have h1' : k = key := h1
      subst h1'
      have rr : RelO (valV ls k) (valueAt vb k) := rb.val k
      rw [hn] at rr
      refine .miss ?_
      cases e : valueAt vb k with
      | none => rfl
      | some z => rw [e] at rr; exact rr.elim
  | @hit k v w r d e b hw hd he pd pe dep _ ih =>
    intro va ra
    cases ra with
    | @cons p q ps qs h t =>
      obtain ⟨h1, h2⟩ := h
      obtain ⟨key, u⟩ := q
      have h1' : k = key := h1
      subst h1'
      have rr : RelO (some w) (valueAt vb k) := by rw [← hw]; exact rb.val k
      obtain ⟨y, hy, ry⟩ := rr.some_of
      obtain ⟨as, r1⟩ := Dp.reads I d v u hd h2
      obtain ⟨bs, r2⟩ := Dp.reads I e w y he ry
      exact .hit hy (SeqAt.EqAt.eqP (SeqAt.eqAt_plain d e A s u y as bs r1 r2 pd pe (by omega))) (ih t)
theorem op_eqDD {X : Cx} (hu : X.A.units + 200 < cLine) : OpR X (compareOp .Eq) (rEqDD X.K) := by
  intro pins s σ H x y v u Q I rx ry h
  obtain ⟨a, b, ks, ls, r, rfl, rfl, ha, hb, hh, q⟩ := h
  cases (show v = Value.ref a from rx)
  cases (show u = Value.ref b from ry)
  obtain ⟨_, ya, va, ra, da⟩ := dk_rd I.hok ha
  obtain ⟨_, yb, vb, rb, db⟩ := dk_rd I.hok hb
  refine PySem.W.rcP_dicts (knd := mixKind X.prog X.w) (r := r) ya yb da db (by omega) (fun _ => hits_keq I (by show X.A.units + 1 + 160 < cLine; omega) rb hh ra) _ _ ?_
  refine ⟨.bl _, H, I, ?_, q⟩
  rw [ra.length, rb.length]
  rfl
def dHits (lvs : List (Key × D)) : List (Key × D) → Option Bool
  | [] => some true
  | (k, d) :: r => match dVal lvs k with
    | none => some false
    | some e => if D.flatOk d e = true then (dHits lvs r).map (D.eqv d e && ·) else none
def dEqD (a b : D) : Option D := match a, b with
  | .dic kvs, .dic lvs => (dHits lvs kvs).map fun r => .bl (decide (kvs.length = lvs.length) && r)
  | _, _ => none
@[simp] theorem dEqD_r (kvs lvs : List (Key × D)) : dEqD (.dic kvs) (.dic lvs) = (dHits lvs kvs).map fun r => .bl (decide (kvs.length = lvs.length) && r) := (rfl)
theorem hits_s {K : PySem.W.Frag} {H : Hp} {W : AS} {lvs : List (Key × D)} {ls : List (Key × V)} (fl : FzM K H W lvs ls) : ∀ {kvs : List (Key × D)} {ks : List (Key × V)} {r : Bool}, FzM K H W kvs ks → dHits lvs kvs = some r → Hits K H ls ks r
  | [], _, r, h, e => by
    rw [show _ = [] from h]
    cases e
    exact .nil
  | (k, d) :: t, _, r, ⟨v, s, h1, h2, h3⟩, e => by
    rw [h1]
    have fo := fl.val k
    unfold dHits at e
    cases hv : dVal lvs k with
    | none =>
      rw [hv] at e fo
      cases e
      cases hw : valV ls k with
      | none => exact .miss hw
      | some w => rw [hw] at fo; exact fo.elim
    | some d2 =>
      rw [hv] at e fo
      cases hw : valV ls k with
      | none => rw [hw] at fo; exact fo.elim
      | some w =>
        rw [hw] at fo
        by_cases c : D.flatOk d d2 = true
        · have e : (if D.flatOk d d2 = true then (dHits lvs t).map (D.eqv d d2 && ·) else none) = some r := e
          rw [if_pos c] at e
          obtain ⟨b, hb, rfl⟩ := Option.map_eq_some_iff.mp e
          unfold D.flatOk at c
          rw [Bool.and_eq_true, Bool.and_eq_true, decide_eq_true_eq] at c
          exact .hit hw (Fz.dp c.1.1 h2) (Fz.dp c.1.2 fo) c.1.1 c.1.2 c.2 (hits_s fl h3 hb)
        · have e : (if D.flatOk d d2 = true then (dHits lvs t).map (D.eqv d d2 && ·) else none) = some r := e
          rw [if_neg c] at e
          cases e
theorem eqD_s {K : PySem.W.Frag} {ta tb : Ty} : OpS K (rEqDD K) dEqD ta tb .im := fun H W x y da db d hx hy _ _ hf => by
  cases da with
  | dic kvs =>
    cases db with
    | dic lvs =>
      rw [dEqD_r] at hf
      obtain ⟨r, hr, rfl⟩ := Option.map_eq_some_iff.mp hf
      obtain ⟨a, ks, rfl, h1, h2⟩ := hx.dic
      obtain ⟨b, ls, rfl, h3, h4⟩ := hy.dic
      refine ⟨rfl, fun Q q => ⟨a, b, ks, ls, r, rfl, rfl, h1, h3, hits_s h4 h2 hr, q _ H .refl ?_⟩⟩
      rw [h2.len, h4.len]
      rfl
    | _ => cases hf
  | _ => cases hf
/-! ### what is never reached -/
def sBad : SM := fun _ => .bad
theorem ss_bad {X : Cx} {Z : Zx} {L : Lp} {Γ Γ' : Gx} {s : Stmt} : SS X Z L Γ Γ' s sBad := ⟨fun _ _ _ _ _ _ ⟨_, _, _, q⟩ => (show False from q).elim⟩
def eBad : EM D := fun _ => .bad
theorem se_bad {X : Cx} {Z : Zx} {Γ : Gx} {e : Expr} {t : Ty} : SE X Z Γ e eBad t := ⟨fun _ _ _ _ _ _ ⟨_, _, _, q⟩ => (show False from q).elim⟩
end VL
/-! VL31: two tuples, side by side. -/
namespace VL
open PySem L2 RZ
theorem walk_zipT {K : PySem.W.Frag} {a b : Addr} {xs ys : List V} {n : Nat} (hn : n = min xs.length ys.length) : Walk (ItzT K a b) n (fun H => SqT K H a xs ∧ SqT K H b ys) (YPair (fun i => xs[i]?) (fun i => ys[i]?)) := by
  subst hn
  refine ⟨fun i _ hi q => ?_, fun _ q => ⟨xs, ys, q.1, q.2, by omega⟩, fun i H v H' _ q y => ?_⟩
  · have h1 : i < xs.length := by omega
    have h2 : i < ys.length := by omega
    exact ⟨xs, ys, xs[i], ys[i], q.1, q.2, List.getElem?_eq_getElem h1, List.getElem?_eq_getElem h2⟩
  · obtain ⟨T, x, z, h1, h2, h3, h4, h5⟩ := y
    exact ⟨T, x, z, h1, h2, h3, h4 xs q.1, h5 ys q.2⟩
def rZipT (ds : List D) (ρ : List D) : R (List D) := match ds with
  | [.tup xs, .tup ys] => .ok ((xs.zip ys).map fun p => .tup [p.1, p.2]) ρ
  | _ => .bad
def eZipT (ψ : EM (List D)) : EM (List D) := fun ρ => (ψ ρ).bind rZipT
@[simp] theorem eZipT_r (ψ : EM (List D)) (ρ : List D) : eZipT ψ ρ = (ψ ρ).bind rZipT := (rfl)
@[simp] theorem rZipT_t (xs ys ρ : List D) : rZipT [.tup xs, .tup ys] ρ = .ok ((xs.zip ys).map fun p => .tup [p.1, p.2]) ρ := (rfl)
section
variable {X : Cx} {Z : Zx} {Γ Γ' : Gx} {a b : Expr} {ψ : EM (List D)} {pos p tpos : Pos} {elts : List Expr} {kk : Nat}
theorem si_zipT (hK : Z.K = X.K) (hg : Gl X "zip") (hm : X.mg "zip" = none) (ha : SA X Z Γ [a, b] ψ [.v .im, .v .im])
    (hs : starEach [a, b] X.env = (false, eval a X.env) :: starEach [b] X.env := by rfl) (hpl : (backTo pos (starEach [b] X.env)).any (·.1) = false := by rfl) : SI X Z Γ (.Tuple elts kk tpos) (.Call (.Name "zip" p) [a, b] [] pos) (eZipT ψ) (.T [.im, .im]) := PI.imp (pi_zipA hg hm ha hs hpl) fun σ H Rr ⟨ρ, U, R, q⟩ =>
  ⟨ρ, U, R, AftI.bind q fun ds ρ1 vs H1 e1 R1 p1 q => by
    obtain ⟨d, r, v, s, rfl, rfl, ⟨hd, ht⟩, d2, r2, v2, s2, rfl, rfl, ⟨hd2, ht2⟩, rfl, rfl⟩ := p1
    cases d with
    | tup ds =>
      cases d2 with
      | tup ds2 =>
        obtain ⟨a, xs, rfl, sa, fa⟩ := hd
        obtain ⟨b, ys, rfl, sb, fb⟩ := hd2
        refine ⟨a, b, xs, ys, rfl, .inr ⟨hK ▸ sa.sq, hK ▸ sb.sq, q _ H1 .refl R1 ?_⟩⟩
        refine hK ▸ it_pair (walk_zipT (K := Z.K) (a := a) (b := b) rfl) (by rw [List.length_map, List.length_zip, fa.length, fb.length]) (fun H' e => ⟨(sa.ext e).sq, (sb.ext e).sq⟩) fun i hi => ?_
        have hi1 : i < ds.length := by rw [fa.length]; omega
        have hi2 : i < ds2.length := by rw [fb.length]; omega
        refine ⟨ds[i], ds2[i], ?_, immL_mem ht (List.getElem_mem hi1), immL_mem ht2 (List.getElem_mem hi2), fun H' W' vx vy e hw h1 h2 => ⟨?_, ?_⟩⟩
        · rw [List.getElem?_map, List.getElem?_zip_eq_some (z := (ds[i], ds2[i])) |>.mpr ⟨List.getElem?_eq_getElem hi1, List.getElem?_eq_getElem hi2⟩]
          rfl
        · obtain ⟨d, hd, fd⟩ := fa.getV h1
          rw [List.getElem?_eq_getElem hi1] at hd
          rw [Option.some.inj hd]
          exact fd.ext2 (fun x z => .inl z) e hw
        · obtain ⟨d, hd, fd⟩ := fb.getV h2
          rw [List.getElem?_eq_getElem hi2] at hd
          rw [Option.some.inj hd]
          exact fd.ext2 (fun x z => .inl z) e hw
      | _ => exact q.elim
    | _ => exact q.elim⟩
end
end VL
/-! VL32: dict(zip(a, b)) of two tuples. -/
namespace VZ
open PySem PyProof.Rows RZ
section
variable {prog : Program} {w : World} {A : Around} {E : Value → Shared → Prop} {s : Shared} {z TI TO T i1 i2 l1 l2 : Addr} {f : Bool} {oT : Obj} {k1 k2 : Nat} {xs ys : Array Value}
/-- the next two, while the pair before is still out -/
theorem held_item {x y : Value} {Q : Value → Shared → Prop} (D : ZipApart z TI TO i1 i2 l1 l2) (hz : IsZipHeld s.heap z TI TO T f) (hT : s.heap.get? T = some oT) (hp : IsPair s.heap TI (.ref i1) (.ref i2))
    (a1 : s.heap.IsTupleIter i1 l1 k1) (a2 : s.heap.IsTupleIter i2 l2 k2) (t1 : s.heap.IsTuple l1 xs) (t2 : s.heap.IsTuple l2 ys) (ex : xs[k1]? = some x) (ey : ys[k2]? = some y)
    (q : ∀ h', IsZipHeld h' z TI TO T true → h'.IsTupleIter i1 l1 (k1 + 1) → h'.IsTupleIter i2 l2 (k2 + 1) → IsPair h' s.heap.objs.size x y →
      (∀ c o, c ≠ z → c ≠ i1 → c ≠ i2 → s.heap.get? c = some o → h'.get? c = some o) → Q (.ref s.heap.objs.size) { s with heap := h' }) :
    wpAny (model prog w) A (Builtin.«zip.__next__» ⟨[.ref z], []⟩) (fun r s' => ∃ v, r = .done (.ret v) ∧ Q v s') E s := by
  show wpAny _ _ (field (.ref z) 2 >>= _) _ _ _; refine wpAny_bind (wpAny_field hz rfl (x := .bool false) rfl ?_)
  show wpAny _ _ (field (.ref z) 3 >>= _) _ _ _; refine wpAny_bind (wpAny_field hz rfl (x := .ref TI) rfl (wpAny_bind (wpAny_seqItems hp rfl ?_)))
  show wpAny _ _ (Builtin.SmallTypes.ownedTupleIsFree (.ref z) >>= _) _ _ _; refine wpAny_bind (wpAny_tupleHeld_zip hz hT fun g1 z1 s1 => ?_)
  simp only [Bool.false_eq_true, if_false]; refine wpAny_bind ?_; rw [← Array.forIn_toList]; simp only [List.forIn_cons, List.forIn_nil]
  refine wpAny_bind (wpAny_bind (wpAny_holding ?_)); show wpAny _ _ (Builtin.SmallTypes.nextOf (.ref i1) >>= _) _ _ _
  refine wpAny_bind (nextOf_tuple_item (s := { s with heap := g1 }) (a1.extBut s1.extBut D.i1z) (t1.extBut s1.extBut D.l1z) ex fun g2 b1 s2 => wpAny_pure (wpAny_pure ?_))
  refine wpAny_bind (wpAny_bind (wpAny_holding ?_)); show wpAny _ _ (Builtin.SmallTypes.nextOf (.ref i2) >>= _) _ _ _
  refine wpAny_bind (nextOf_tuple_item (s := { s with heap := g2 }) ((a2.extBut s1.extBut D.i2z).extBut s2.extBut D.i12.symm) ((t2.extBut s1.extBut D.l2z).extBut s2.extBut D.l2i1) ey fun g3 b2 s3 => wpAny_pure (wpAny_pure (wpAny_pure ?_)))
  show wpAny _ _ (newTuple [x, y] >>= _) _ _ _; refine wpAny_bind (wpAny_newTuple ?_)
  have sz : g3.objs.size = s.heap.objs.size := by rw [s3.1, s2.1, s1.1]
  have z3 : IsZipHeld g3 z TI TO T true := s3.extBut _ _ D.i2z.symm (s2.extBut _ _ D.i1z.symm z1)
  have keep : ∀ c o, c ≠ z → c ≠ i1 → c ≠ i2 → s.heap.get? c = some o → g3.get? c = some o := fun c o n1 n2 n3 e => s3.extBut _ _ n3 (s2.extBut _ _ n2 (s1.extBut _ _ n1 e))
  have b3 := b1.extBut s3.extBut D.i12
  refine wpAny_pure ⟨_, rfl, ?_⟩
  have pr : IsPair (g3.push { cls := .type "tuple", data := .seq #[x, y] }) g3.objs.size x y := Heap.get?_push_size _ rfl
  show Q (.ref g3.objs.size) _
  rw [sz] at pr ⊢
  exact q _ (Heap.get?_push_of_some _ z3) (b3.at fun o e => Heap.get?_push_of_some _ e) (b2.at fun o e => Heap.get?_push_of_some _ e) pr fun c o n1 n2 n3 e => Heap.get?_push_of_some _ (keep c o n1 n2 n3 e)
/-- no next, while the pair before is still out -/
theorem held_end {Q : Fin → Shared → Prop} (hh : A.handled = none) (D : ZipApart z TI TO i1 i2 l1 l2) (hz : IsZipHeld s.heap z TI TO T f) (hT : s.heap.get? T = some oT) (hp : IsPair s.heap TI (.ref i1) (.ref i2))
    (a1 : s.heap.IsTupleIter i1 l1 k1) (a2 : s.heap.IsTupleIter i2 l2 k2) (t1 : s.heap.IsTuple l1 xs) (t2 : s.heap.IsTuple l2 ys) (fin : xs[k1]? = none ∨ ys[k2]? = none)
    (q : ∀ h' e, (∀ c o, c ≠ z → c ≠ i1 → c ≠ i2 → s.heap.get? c = some o → h'.get? c = some o) → (∃ o, h'.get? e = some o ∧ o.cls = .type "StopIteration") → E (.ref e) { s with heap := h' }) :
    wpAny (model prog w) A (Builtin.«zip.__next__» ⟨[.ref z], []⟩) Q E s := by
  show wpAny _ _ (field (.ref z) 2 >>= _) _ _ _; refine wpAny_bind (wpAny_field hz rfl (x := .bool false) rfl ?_)
  show wpAny _ _ (field (.ref z) 3 >>= _) _ _ _; refine wpAny_bind (wpAny_field hz rfl (x := .ref TI) rfl (wpAny_bind (wpAny_seqItems hp rfl ?_)))
  show wpAny _ _ (Builtin.SmallTypes.ownedTupleIsFree (.ref z) >>= _) _ _ _; refine wpAny_bind (wpAny_tupleHeld_zip hz hT fun g1 z1 s1 => ?_)
  simp only [Bool.false_eq_true, if_false]; refine wpAny_bind ?_; rw [← Array.forIn_toList]; simp only [List.forIn_cons, List.forIn_nil]
  refine wpAny_bind (wpAny_bind (wpAny_holding ?_)); show wpAny _ _ (Builtin.SmallTypes.nextOf (.ref i1) >>= _) _ _ _
  have c1 := a1.extBut s1.extBut D.i1z
  have u1 := t1.extBut s1.extBut D.l1z
  cases ex : xs[k1]? with
  | none => exact wpAny_bind (nextOf_tuple_end (s := { s with heap := g1 }) hh c1 u1 ex fun g2 e s2 he => q g2 e (fun c o n1 n2 _ x => s2 _ _ n2 (s1.extBut _ _ n1 x)) he)
  | some x =>
    have ey : ys[k2]? = none := fin.elim (fun h => by rw [ex] at h; cases h) id
    refine wpAny_bind (nextOf_tuple_item (s := { s with heap := g1 }) c1 u1 ex fun g2 b1 s2 => wpAny_pure (wpAny_pure ?_))
    refine wpAny_bind (wpAny_bind (wpAny_holding ?_)); show wpAny _ _ (Builtin.SmallTypes.nextOf (.ref i2) >>= _) _ _ _
    exact wpAny_bind (nextOf_tuple_end (s := { s with heap := g2 }) hh ((a2.extBut s1.extBut D.i2z).extBut s2.extBut D.i12.symm) ((t2.extBut s1.extBut D.l2z).extBut s2.extBut D.l2i1) ey fun g3 e s3 he => q g3 e (fun c o n1 n2 n3 x => s3 _ _ n3 (s2.extBut _ _ n2 (s1.extBut _ _ n1 x))) he)
theorem next_held {x y : Value} {Q : Option Value → Shared → Prop} (D : ZipApart z TI TO i1 i2 l1 l2) (hz : IsZipHeld s.heap z TI TO T f) (hT : s.heap.get? T = some oT) (hp : IsPair s.heap TI (.ref i1) (.ref i2))
    (a1 : s.heap.IsTupleIter i1 l1 k1) (a2 : s.heap.IsTupleIter i2 l2 k2) (t1 : s.heap.IsTuple l1 xs) (t2 : s.heap.IsTuple l2 ys) (ex : xs[k1]? = some x) (ey : ys[k2]? = some y)
    (q : ∀ h', IsZipHeld h' z TI TO T true → h'.IsTupleIter i1 l1 (k1 + 1) → h'.IsTupleIter i2 l2 (k2 + 1) → IsPair h' s.heap.objs.size x y →
      (∀ c o, c ≠ z → c ≠ i1 → c ≠ i2 → s.heap.get? c = some o → h'.get? c = some o) → Q (some (.ref s.heap.objs.size)) { s with heap := h' }) : wpAny (model prog w) A (pyNext (.ref z)) Q E s := by
  have ty : s.TypeIs (.ref z) "zip" := ⟨_, hz, rfl⟩
  unfold pyNext
  exact wpAny_bind (wpAny_attempt (wpAny_callSpecial?_slot (name := Str.ofString "__next__") ty F.slot_zip_next (wpAny_call_entry F.slot_zip_next ty F.entry_zip_next (held_item D hz hT hp a1 a2 t1 t2 ex ey fun h' b1 b2 b3 b4 b5 => wpAny_pure (q h' b1 b2 b3 b4 b5)) (F.args_zip_next_1 _))))
theorem over_held {Q : Option Value → Shared → Prop} (hh : A.handled = none) (D : ZipApart z TI TO i1 i2 l1 l2) (hz : IsZipHeld s.heap z TI TO T f) (hT : s.heap.get? T = some oT) (hp : IsPair s.heap TI (.ref i1) (.ref i2))
    (a1 : s.heap.IsTupleIter i1 l1 k1) (a2 : s.heap.IsTupleIter i2 l2 k2) (t1 : s.heap.IsTuple l1 xs) (t2 : s.heap.IsTuple l2 ys) (fin : xs[k1]? = none ∨ ys[k2]? = none)
    (q : ∀ h', (∀ c o, c ≠ z → c ≠ i1 → c ≠ i2 → s.heap.get? c = some o → h'.get? c = some o) → Q none { s with heap := h' }) : wpAny (model prog w) A (pyNext (.ref z)) Q E s := by
  have ty : s.TypeIs (.ref z) "zip" := ⟨_, hz, rfl⟩
  unfold pyNext
  refine wpAny_bind (wpAny_attempt (wpAny_callSpecial?_slot (name := Str.ofString "__next__") ty F.slot_zip_next (wpAny_call_entry F.slot_zip_next ty F.entry_zip_next (held_end hh D hz hT hp a1 a2 t1 t2 fin fun h' e k he => ?_) (F.args_zip_next_1 _))))
  obtain ⟨o, ho, hc⟩ := he
  exact wpAny_bind (wpAny_isInstance (T := "StopIteration") (b := true) ⟨o, ho, hc⟩ isSubtype_stop (wpAny_pure (q _ k)))
end
end VZ
/-! VL33: dict(zip(a, b)), as an argument, as an expression. -/
namespace VZ
open PySem PyProof.Rows RZ
section
variable {prog : Program} {w : World}
/-- what stands while two tuples are gone through -/
structure Going (z TI TO i1 i2 l1 l2 d : Addr) (xs ys : Array Value) (i : Nat) (h : Heap) : Prop where
  pr : IsPair h TI (.ref i1) (.ref i2)
  a1 : h.IsTupleIter i1 l1 i
  a2 : h.IsTupleIter i2 l2 i
  t1 : h.IsTuple l1 xs
  t2 : h.IsTuple l2 ys
  out : (IsZip h z TI TO .none ∧ ∃ a b, IsPair h TO a b) ∨ ∃ T f oT, IsZipHeld h z TI TO T f ∧ h.get? T = some oT ∧ T ≠ z ∧ T ≠ i1 ∧ T ≠ i2 ∧ T ≠ d
theorem ne4 {c a1 a2 a3 a4 : Addr} (h : c ∉ [a1, a2, a3, a4]) : c ≠ a1 ∧ c ≠ a2 ∧ c ≠ a3 ∧ c ≠ a4 := by
  simp only [List.mem_cons, List.not_mem_nil, or_false, not_or] at h
  exact h
theorem going_src (z TI TO i1 i2 l1 l2 d : Addr) (D : ZipApart z TI TO i1 i2 l1 l2) (xs ys : Array Value) {A : Around} (hA : A.handled = none) (nd : d ∉ [z, TI, TO, i1, i2, l1, l2]) :
    PairSrc prog w A z d [z, TO, i1, i2] (min xs.size ys.size) (fun i k v => xs[i]? = some k ∧ ys[i]? = some v) (fun i h => Going z TI TO i1 i2 l1 l2 d xs ys i h) := by
  simp only [List.mem_cons, List.not_mem_nil, or_false, not_or] at nd
  obtain ⟨d1, d2, d3, d4, d5, d6, d7⟩ := nd
  constructor
  · intro hm
    simp only [List.mem_cons, List.not_mem_nil, or_false] at hm
    rcases hm with e | e | e | e
    · exact d1 e
    · exact d3 e
    · exact d4 e
    · exact d5 e
  · intro i g g' st k
    refine ⟨k _ _ (Ne.symm d2) st.pr, st.a1.at fun o e => k _ o (Ne.symm d4) e, st.a2.at fun o e => k _ o (Ne.symm d5) e, st.t1.at fun o e => k _ o (Ne.symm d6) e, st.t2.at fun o e => k _ o (Ne.symm d7) e, ?_⟩
    rcases st.out with ⟨hz, a, b, ho⟩ | ⟨T, f, oT, hz, hT, r⟩
    · exact .inl ⟨k _ _ (Ne.symm d1) hz, a, b, k _ _ (Ne.symm d3) ho⟩
    · exact .inr ⟨T, f, oT, k _ _ (Ne.symm d1) hz, k _ _ r.2.2.2 hT, r⟩
  · intro i s Q E hi st dl q
    have ex := Array.getElem?_eq_getElem (Nat.lt_of_lt_of_le hi (Nat.min_le_left xs.size ys.size))
    have ey := Array.getElem?_eq_getElem (Nat.lt_of_lt_of_le hi (Nat.min_le_right xs.size ys.size))
    have new : ∀ {c o}, s.heap.get? c = some o → s.heap.objs.size ≠ c := fun e => Nat.ne_of_gt (Heap.lt_size e)
    have m1 : s.heap.objs.size ≠ i1 := by obtain ⟨_, e, _⟩ := st.a1; exact new e
    have m2 : s.heap.objs.size ≠ i2 := by obtain ⟨_, e, _⟩ := st.a2; exact new e
    rcases st.out with ⟨hz, a, b, ho⟩ | ⟨T, f, oT, hz, hT, r1, r2, r3, r4⟩
    · refine pyNext_zipT_item D hz st.pr ho st.a1 st.a2 st.t1 st.t2 ex ey fun h' b1 b2 b3 b4 b5 b6 k => ?_
      refine q s.heap.objs.size _ _ h' s.toks ⟨ex, ey⟩ (.inl ⟨_, b5, rfl, _, rfl⟩) ⟨k _ _ D.TIz D.TITO D.TIi1 D.TIi2 st.pr, b3, b4, st.t1.at fun o e => k _ o D.l1z D.l1TO D.l1i1 D.l1i2 e, st.t2.at fun o e => k _ o D.l2z D.l2TO D.l2i1 D.l2i2 e, ?_⟩ fun c o hc e => ?_
      · exact .inr ⟨s.heap.objs.size, false, _, b1, b5, new hz, m1, m2, Nat.ne_of_gt dl⟩
      · obtain ⟨n1, n2, n3, n4⟩ := ne4 hc
        exact k c o n1 n2 n3 n4 e
    · refine next_held D hz hT st.pr st.a1 st.a2 st.t1 st.t2 ex ey fun h' b1 b3 b4 b5 k => ?_
      refine q s.heap.objs.size _ _ h' s.toks ⟨ex, ey⟩ (.inl ⟨_, b5, rfl, _, rfl⟩) ⟨k _ _ D.TIz D.TIi1 D.TIi2 st.pr, b3, b4, st.t1.at fun o e => k _ o D.l1z D.l1i1 D.l1i2 e, st.t2.at fun o e => k _ o D.l2z D.l2i1 D.l2i2 e, ?_⟩ fun c o hc e => ?_
      · exact .inr ⟨T, true, oT, b1, k _ _ r1 r2 r3 hT, r1, r2, r3, r4⟩
      · obtain ⟨n1, n2, n3, n4⟩ := ne4 hc
        exact k c o n1 n3 n4 e
  · intro s Q E st q
    have over : xs[min xs.size ys.size]? = none ∨ ys[min xs.size ys.size]? = none := by
      by_cases c : xs.size ≤ ys.size
      · exact .inl (Array.getElem?_eq_none (by omega))
      · exact .inr (Array.getElem?_eq_none (by omega))
    rcases st.out with ⟨hz, a, b, ho⟩ | ⟨T, f, oT, hz, hT, r⟩
    · refine pyNext_zipT_end hA D hz st.pr ho st.a1 st.a2 st.t1 st.t2 over fun h' k => q h' s.toks fun c o hc e => ?_
      obtain ⟨n1, n2, n3, n4⟩ := ne4 hc
      exact k c o n1 n2 n3 n4 e
    · refine over_held hA D hz hT st.pr st.a1 st.a2 st.t1 st.t2 over fun h' k => q h' s.toks fun c o hc e => ?_
      obtain ⟨n1, n2, n3, n4⟩ := ne4 hc
      exact k c o n1 n3 n4 e
theorem two_arg (z TI TO i1 i2 l1 l2 : Addr) (D : ZipApart z TI TO i1 i2 l1 l2) (xs ys : Array Value) :
    PairArg prog w "zip" z [z, TI, TO, i1, i2, l1, l2] [z, TO, i1, i2] (min xs.size ys.size) (fun i k v => xs[i]? = some k ∧ ys[i]? = some v)
      (fun h => IsZip h z TI TO .none ∧ IsPair h TI (.ref i1) (.ref i2) ∧ (∃ a b, IsPair h TO a b) ∧ h.IsTupleIter i1 l1 0 ∧ h.IsTupleIter i2 l2 0 ∧ h.IsTuple l1 xs ∧ h.IsTuple l2 ys) := by
  refine ⟨fun s ok => ⟨_, ok.1, rfl⟩, by decide, fun h h' ok k => ?_, fun h ok b hb => ?_, fun b hb => ?_, fun A s Q E hA ok q => getAttrOr_miss_zip ok.1 rfl rfl rfl zip_no_keys (by decide +kernel) hA q, fun A s d Q E hA ok _ nd q => ?_⟩
  · obtain ⟨hz, hp, ⟨a, b, ho⟩, a1, a2, t1, t2⟩ := ok
    exact ⟨k _ _ hz, k _ _ hp, ⟨a, b, k _ _ ho⟩, a1.at fun o e => k _ o e, a2.at fun o e => k _ o e, t1.at fun o e => k _ o e, t2.at fun o e => k _ o e⟩
  · obtain ⟨hz, hp, ⟨_, _, ho⟩, ⟨_, a1, _⟩, ⟨_, a2, _⟩, ⟨_, t1, _⟩, ⟨_, t2, _⟩⟩ := ok
    simp only [List.mem_cons, List.not_mem_nil, or_false] at hb
    rcases hb with e | e | e | e | e | e | e <;> subst e
    · exact ⟨_, hz⟩
    · exact ⟨_, hp⟩
    · exact ⟨_, ho⟩
    · exact ⟨_, a1⟩
    · exact ⟨_, a2⟩
    · exact ⟨_, t1⟩
    · exact ⟨_, t2⟩
  · simp only [List.mem_cons, List.not_mem_nil, or_false] at hb ⊢
    rcases hb with e | e | e | e <;> subst e <;> simp
  · obtain ⟨hz, hp, ho, a1, a2, t1, t2⟩ := ok
    exact wpAny_pyIter_zip hz (q z [z, TO, i1, i2] (fun i h => Going z TI TO i1 i2 l1 l2 d xs ys i h) s.heap s.toks (going_src z TI TO i1 i2 l1 l2 d D xs ys hA nd) ⟨hp, a1, a2, t1, t2, .inl ⟨hz, ho⟩⟩ (fun _ _ e => e) fun b hb => .inl hb)
end
end VZ
namespace L2
open PySem PySem.Spec PyProof.Rows RZ VZ
section
variable {X : Cx}
/-- dict(zip(a, b)): two tuples, the first one of ints and texts -/
def tDictZip (K : PySem.W.Frag) (ta : TA) : TE := fun σ H Q => ta σ H fun vs H1 => ∃ a b, ∃ ks : List Key, ∃ ys : List V, vs = [.ref a, .ref b] ∧ SqT K H1 a (ks.map kV) ∧ SqT K H1 b ys ∧ ∀ p, H1 p = none → Q (.ref p) (upd H1 p (.dK (mergeK [] (ks.zip ys))))
theorem kv_zip {P : Program} {w : World} : ∀ {ks : List Key} {ys : List V} {us vs : List Value}, Vals (ks.map kV) us → Vals ys vs → ∃ prs : List (Key × Value), KV (ks.zip ys) prs ∧ prs.length = min us.length vs.length ∧ ∀ (i : Nat) (u v : Value), us[i]? = some u → vs[i]? = some v → ∃ k, prs[i]? = some (k, v) ∧ (mixKind P w).is k u = true
  | [], ys, us, vs, h, _ => by
    rw [List.map_nil] at h
    cases h
    exact ⟨[], .nil, by simp, fun i u v e => by simp at e⟩
  | k :: ks, ys, us, vs, h, g => by
    rw [List.map_cons] at h
    cases h with
    | @cons _ u _ ur hk ht =>
      cases g with
      | nil => exact ⟨[], .nil, by simp, fun i u v _ e => by simp at e⟩
      | @cons y v yr vr hy gt =>
        obtain ⟨prs, h1, h2, h3⟩ := kv_zip (P := P) (w := w) ht gt
        refine ⟨(k, v) :: prs, .cons ⟨rfl, hy⟩ h1, by rw [List.length_cons, List.length_cons, List.length_cons, h2]; omega, fun i u' v' e1 e2 => ?_⟩
        cases i with
        | zero =>
          have f1 := Option.some.inj e1
          have f2 := Option.some.inj e2
          subst f1 f2
          exact ⟨k, rfl, kV_is hk⟩
        | succ i => exact h3 i u' v' (by simpa using e1) (by simpa using e2)
theorem pe_dictZip {a b : Expr} {ta : TA} {p p2 q pos : Pos} (hc : X.calm = true) (hg : Gl X "dict") (hm : X.mg "dict" = none) (hg2 : Gl X "zip") (hm2 : X.mg "zip" = none) (ha : PA X [a, b] ta)
    (hs : starEach [a, b] X.env = (false, eval a X.env) :: starEach [b] X.env := by rfl) (hpl : (backTo q (starEach [b] X.env)).any (·.1) = false := by rfl) (na : starEach [.Call (.Name "zip" p2) [a, b] [] q] X.env = (false, eval (.Call (.Name "zip" p2) [a, b] [] q) X.env) :: starEach [] X.env := by rfl) :
    PE X (.Call (.Name "dict" p) [.Call (.Name "zip" p2) [a, b] [] q] [] pos) (tDictZip X.K ta) := by
  refine ⟨fun pins s σ H Q I h => ?_⟩
  refine Call_ (ld_blt I hg hm boot_dict (PyProof.Rows.callWith_type1 (PyProof.Rows.args_cons ?_ na) na rfl))
  refine Call_ (ld_blt I hg2 hm2 boot_zip (PyProof.Rows.callWith_type1 (thn (ha.run q pins s σ H _ I h) fun us s1 ⟨vs, H1, I1, r1, l, m, ks, ys, ev, h1, h2, q1⟩ => ?_) hs hpl))
  subst ev
  obtain ⟨u1, u2, rfl, e1, e2⟩ := vals2 r1
  cases e1
  cases e2
  obtain ⟨its, rv, t1, z1⟩ := I1.tuple h1
  obtain ⟨jts, rw', t2, z2⟩ := I1.tuple h2
  obtain ⟨prs, kv, pl, ph⟩ := kv_zip (P := X.prog) (w := X.w) rv rw'
  refine call_zipT (show s1.heap.IsTuple l its.toArray from t1) (show s1.heap.IsTuple m jts.toArray from t2) fun h' c1 c2 c3 c4 c5 sz hk => PyProof.Rows.args_nil ?_
  obtain ⟨o1, ho1, _⟩ := id t1
  obtain ⟨o2, ho2, _⟩ := id t2
  have D := PySem.W.ktu_apart s1.heap.objs.size l m (Heap.lt_size ho1) (Heap.lt_size ho2)
  have P := two_arg (prog := X.prog) (w := X.w) _ _ _ _ _ l m D its.toArray jts.toArray
  have mm : min its.toArray.size jts.toArray.size = min its.length jts.length := by rw [List.size_toArray, List.size_toArray]
  refine PySem.call_dict_pairs (knd := mixKind X.prog X.w) (kvs := prs) P (I1.ok.hd hc) ⟨c1, c2, ⟨_, _, c3⟩, c4, c5, (show s1.heap.IsTuple l its.toArray from t1).at fun o e => hk _ o e, (show s1.heap.IsTuple m jts.toArray from t2).at fun o e => hk _ o e⟩ ⟨by rw [pl, mm], fun i u v e => ph i u v (by simpa using e.1) (by simpa using e.2)⟩ ?_ fun h2 tk hd k => ?_
  · rw [mm]
    have : its.length ≤ sizeLine := by rw [← rv.length]; exact z1
    omega
  · have old : ∀ b o, s1.heap.get? b = some o → h2.get? b = some o := fun b o e => by
      have lt := Heap.lt_size e
      refine k b o (fun hm => ?_) (hk b o e)
      simp only [List.mem_cons, List.not_mem_nil, or_false] at hm
      refine Nat.lt_irrefl _ (Nat.lt_of_le_of_lt ?_ lt)
      rcases hm with x | x | x | x <;> rw [x] <;> first | exact Nat.le_add_right _ _ | exact Nat.le_refl _
    have big : s1.heap.objs.size ≤ h'.objs.size := by rw [sz]; omega
    have nm : (h'.objs.size == sysModules) = false := beq_eq_false_iff_ne.mpr (Nat.ne_of_gt (Nat.lt_of_lt_of_le I1.big big))
    have len : (mergeK [] (ks.zip ys)).length ≤ sizeLine := by
      refine Nat.le_trans (length_mergeK (ks.zip ys) []) ?_
      rw [List.length_nil, Nat.zero_add, List.length_zip]
      have : ks.length ≤ sizeLine := by simpa using z1
      omega
    exact ⟨.ref h'.objs.size, upd H1 h'.objs.size (.dK (mergeK [] (ks.zip ys))), I1.laid (t' := tk) old big (show ObjOk X.prog X.w _ _ _ (.dK (mergeK [] (ks.zip ys))) from ⟨len, nm, merged [] prs, KV.merge kv .nil, hd⟩), rfl, q1 _ (I1.hok.fresh big)⟩
end
end L2
/-! VL34: dict(zip(a, b)) by value. -/
namespace VL
open PySem L2
def dKs : List D → Option (List Key)
  | [] => some []
  | d :: r => match dK d, dKs r with
    | some k, some ks => some (k :: ks)
    | _, _ => none
def dMerge (kvs more : List (Key × D)) : List (Key × D) := more.foldl (fun acc kv => dSet acc kv.1 kv.2) kvs
def fDZip : List D → Option (List (Key × D))
  | [.tup as, .tup bs] => (dKs as).map fun ks => dMerge [] (ks.zip bs)
  | _ => none
def eDZip (ψ : EM (List D)) : EM D := fun ρ => (ψ ρ).bind fun ds ρ => liftO ((fDZip ds).map D.dic) ρ
@[simp] theorem eDZip_r (ψ : EM (List D)) (ρ : List D) : eDZip ψ ρ = (ψ ρ).bind fun ds ρ => liftO ((fDZip ds).map D.dic) ρ := (rfl)
@[simp] theorem fDZip_r (as bs : List D) : fDZip [.tup as, .tup bs] = (dKs as).map fun ks => dMerge [] (ks.zip bs) := (rfl)
theorem dKs_strs : ∀ ws : List Str, dKs (ws.map D.str) = some (ws.map Sum.inr)
  | [] => rfl
  | w :: ws => by
    show (match dK (.str w), dKs (ws.map D.str) with
      | some k, some ks => some (k :: ks)
      | _, _ => none) = _
    rw [dKs_strs ws]
    rfl
section
variable {K : PySem.W.Frag} {H : Hp} {W : AS}
theorem ks_fz : ∀ {ds : List D} {ks : List Key} {vs : List V}, dKs ds = some ks → FzL K H W ds vs → vs = ks.map kV
  | [], ks, vs, e, h => by
    cases e
    exact h
  | d :: r, ks, vs, e, ⟨v, s, h1, h2, h3⟩ => by
    unfold dKs at e
    cases ek : dK d with
    | none => rw [ek] at e; cases e
    | some k =>
      cases er : dKs r with
      | none => rw [ek, er] at e; cases e
      | some q =>
        rw [ek, er] at e
        cases e
        rw [h1, ks_fz er h3, Vw.key (.inl h2) ek]
        rfl
theorem zip_fz : ∀ {ks : List Key} {ds : List D} {vs : List V}, FzL K H W ds vs → FzM K H W (ks.zip ds) (ks.zip vs)
  | [], _, _, _ => rfl
  | k :: ks, [], vs, h => by
    rw [show vs = [] from h]
    rfl
  | k :: ks, d :: r, _, ⟨v, s, h1, h2, h3⟩ => by
    rw [h1]
    exact ⟨v, _, rfl, h2, zip_fz h3⟩
theorem merge_fz : ∀ {more kvs : List (Key × D)} {ms ks : List (Key × V)}, FzM K H W kvs ks → FzM K H W more ms → FzM K H W (dMerge kvs more) (mergeK ks ms)
  | [], _, ms, _, h, m => by
    rw [show ms = [] from m]
    exact h
  | (k, d) :: r, kvs, _, ks, h, ⟨v, s, h1, h2, h3⟩ => by
    rw [h1]
    exact merge_fz (kvs := dSet kvs k d) (ks := putK ks k v) (h.set k h2) h3
theorem merge_mem : ∀ {more kvs : List (Key × D)} {x : Key × D}, x ∈ dMerge kvs more → (∃ y ∈ kvs, x.2 = y.2) ∨ ∃ y ∈ more, x.2 = y.2
  | [], kvs, x, h => .inl ⟨x, h, rfl⟩
  | (k, d) :: r, kvs, x, h => by
    rcases merge_mem (more := r) (kvs := dSet kvs k d) h with ⟨y, hy, e⟩ | ⟨y, hy, e⟩
    · rcases dSet_mem hy with q | q
      · exact .inr ⟨(k, d), List.mem_cons_self, by rw [e, q]⟩
      · exact .inl ⟨y, q, e⟩
    · exact .inr ⟨y, List.mem_cons_of_mem _ hy, e⟩
end
section
variable {X : Cx} {Z : Zx} {Γ : Gx} {a b : Expr} {ψ : EM (List D)} {p p2 q pos : Pos}
theorem sn_dictZip (hK : Z.K = X.K) (hc : X.calm = true) (hg : Gl X "dict") (hm : X.mg "dict" = none) (hg2 : Gl X "zip") (hm2 : X.mg "zip" = none) (ha : SA X Z Γ [a, b] ψ [.v .im, .v .im])
    (hs : starEach [a, b] X.env = (false, eval a X.env) :: starEach [b] X.env := by rfl) (hpl : (backTo q (starEach [b] X.env)).any (·.1) = false := by rfl) (na : starEach [.Call (.Name "zip" p2) [a, b] [] q] X.env = (false, eval (.Call (.Name "zip" p2) [a, b] [] q) X.env) :: starEach [] X.env := by rfl) :
    SN X Z Γ (.Call (.Name "dict" p) [.Call (.Name "zip" p2) [a, b] [] q] [] pos) (eDZip ψ) (.M .im) := PE.imp (pe_dictZip hc hg hm hg2 hm2 ha hs hpl na) fun σ H Q ⟨ρ, U, R, h⟩ =>
  ⟨ρ, U, R, AftN.bind h fun ds ρ1 vs H1 e1 R1 p1 h => by
    obtain ⟨d, r, v, s, rfl, rfl, ⟨hd, ht⟩, d2, r2, v2, s2, rfl, rfl, ⟨hd2, ht2⟩, rfl, rfl⟩ := p1
    cases d with
    | tup as =>
      cases d2 with
      | tup bs =>
        rw [fDZip_r] at h
        cases ek : dKs as with
        | none => rw [ek] at h; exact h.elim
        | some ks =>
          rw [ek] at h
          have h : AftN Z Γ (.M .im) σ H1 U Q (.ok (.dic (dMerge [] (ks.zip bs))) ρ1) := h
          obtain ⟨x, xs, rfl, sa, fa⟩ := hd
          obtain ⟨y, ys, rfl, sb, fb⟩ := hd2
          have exs := ks_fz ek fa
          subst exs
          refine ⟨x, y, ks, ys, rfl, hK ▸ sa.sq, hK ▸ sb.sq, fun n hn => ?_⟩
          refine h n _ (Ext.new hn) hn (R1.new hn) (own_newD R1 hn (merge_fz (ks := []) rfl (zip_fz fb))) ⟨_, rfl, fun z hz => ?_⟩
          rcases merge_mem hz with ⟨w, hw, _⟩ | ⟨w, hw, e⟩
          · cases hw
          · rw [e]
            exact immL_mem ht2 (List.of_mem_zip (a := w.1) (b := w.2) hw).2
      | _ => exact h.elim
    | _ => exact h.elim⟩
end
end VL
/-! VL35: the set of a list of texts, and what is sorted of it. -/
namespace VS
open PySem PySem.Spec PyProof.Rows PySem.Froz
/-- a set of the texts l, its table in order -/
def TS (P : Program) (w : World) (h : Heap) (a : Addr) (l : List Str) : Prop :=
  ∃ D : SD, h.get? a = some (sObj "set" D) ∧ TxOk P w D l ∧ L2.Ris D.2.2.place.toList ∧ (w.params.followText "set-order" = true ∨ D.2.2.led = true)
theorem TS.at {P : Program} {w : World} {h h' : Heap} {a : Addr} {l : List Str} (T : TS P w h a l) (k : ∀ o, h.get? a = some o → h'.get? a = some o) : TS P w h' a l := by
  obtain ⟨D, e, r⟩ := T
  exact ⟨D, k _ e, r⟩
theorem tail_more {ep : Nat} {es : Array (Int × Value)} {t : SetTable} {b : Bool} (r : L2.Ris t.place.toList) : L2.Ris (tailTx ep es t b).2.2.place.toList ∧ (tailTx ep es t b).2.2.led = t.led := by
  unfold tailTx
  split
  · exact ⟨L2.relayAll_ris .., L2.relayAll_led ..⟩
  · exact ⟨r, rfl⟩
theorem add_more (i : Int) (v : Value) (D : SD) (r : L2.Ris D.2.2.place.toList) : L2.Ris (addTx i v D).2.2.place.toList ∧ (addTx i v D).2.2.led = D.2.2.led := by
  have r2 := L2.layNew_ris D.2.2 D.1 i v r
  have e2 := L2.layNew_led D.2.2 D.1 i v
  have key : ∀ t : SetTable, L2.Ris t.place.toList → t.led = D.2.2.led → L2.Ris (if t.plain = true then { t with plain := false } else t).place.toList ∧ (if t.plain = true then { t with plain := false } else t).led = D.2.2.led := fun t a b => by
    split
    · exact ⟨a, b⟩
    · exact ⟨a, b⟩
  obtain ⟨k1, k2⟩ := key _ r2 e2
  obtain ⟨m1, m2⟩ := tail_more (ep := D.2.1) (es := (layNew D.2.2 D.1 i v).1) (b := (layNew D.2.2 D.1 i v).2.2.1) k1
  exact ⟨m1, m2.trans k2⟩
section
variable {P : Program} {w : World} {A : Around} {E : Value → Shared → Prop} {s : Shared}
/-- one that is there -/
theorem dup_x {a : Addr} {D : SD} {l : List Str} {k : Str} {u : Tok} {Q : Bool → Shared → Prop} (ho : s.heap.get? a = some (sObj "set" D)) (F : TxOk P w D l) (hk : k ∈ l) (hb : l.length < scanBound) (q : Q false s) :
    wpAny (model P w) A (setAddHashed a (.str k u) (hashStr w k)) Q E s := by
  obtain ⟨es, ep, t⟩ := D
  have key : (strKind P w).is k (.str k u) = true := is_str k u
  have sz : es.size < scanBound := Nat.lt_of_le_of_lt (Nat.le_of_eq F.sz) hb
  obtain ⟨j, hj⟩ : ∃ j, List.findIdx? (fun e => (strKind P w).is k e.2) es.toList = some j := by
    cases hr : List.findIdx? (fun e => (strKind P w).is k e.2) es.toList with
    | some j => exact ⟨j, rfl⟩
    | none =>
      obtain ⟨e, he, hp⟩ := (F.mem k).mp hk
      have := List.findIdx?_eq_none_iff.mp hr e he
      rw [hp] at this
      exact absurd this (by decide)
  unfold setAddHashed setAddHashedIn; refine wpAny_holding (wpAny_bind (wpAny_setState_of ho rfl F.fit ?_)); dsimp only
  rw [byScan_of rfl sz F.el]; simp only [↓reduceIte]; unfold setAddByScan
  refine wpAny_bind (wpAny_bind (wpAny_rule (wpAny_bind (wpAny_setScan_of (knd := strKind P w) (k := k) key ho rfl F.fit F.el ?_))))
  rw [hj]; dsimp only
  exact wpAny_pure (wpAny_pure q)
theorem put_x {a : Addr} {l : List Str} {k : Str} {u : Tok} {Q : Bool → Shared → Prop} (T : TS P w s.heap a l) (hb : l.length + 1 < scanBound)
    (q : ∀ b h', TS P w h' a (if k ∈ l then l else k :: l) → (∀ c o, c ≠ a → s.heap.get? c = some o → h'.get? c = some o) → Q b { s with heap := h', toks := s.toks + 1 }) : wpAny (model P w) A (setAdd a (.str k u)) Q E s := by
  obtain ⟨D, ho, F, r, led⟩ := T
  unfold setAdd; refine wpAny_holding (wpAny_bind ((strKind P w).pyHash (k := k) (strKind_is _ _ _ _) ?_))
  by_cases c : k ∈ l
  · simp only [if_pos c] at q
    exact dup_x (s := { s with toks := s.toks + 1 }) ho F c (by omega) (q _ s.heap ⟨D, ho, F, r, led⟩ fun _ _ _ e => e)
  · simp only [if_neg c] at q
    obtain ⟨r1, r2⟩ := add_more (hashStr w k) (.str k u) D r
    refine add_x (s := { s with toks := s.toks + 1 }) ho F c hb (q _ _ ⟨_, get_upd _ ho rfl, add_ok u F, r1, ?_⟩ fun b o hb' e => (Heap.get?_update_other _ _ (Ne.symm hb')).trans e)
    rw [r2]
    exact led
end
/-- what was met of xs -/
structure Met (xs l : List Str) : Prop where
  nd : l.Nodup
  mem : ∀ z, z ∈ l ↔ z ∈ xs
  len : l.length ≤ xs.length
theorem Met.snoc {xs l : List Str} (M : Met xs l) (x : Str) : Met (xs ++ [x]) (if x ∈ l then l else x :: l) := by
  by_cases c : x ∈ l
  · rw [if_pos c]
    refine ⟨M.nd, fun z => ?_, by rw [List.length_append]; exact Nat.le_trans M.len (Nat.le_add_right ..)⟩
    rw [List.mem_append, List.mem_singleton, M.mem z]
    exact ⟨.inl, fun h => h.elim id fun e => by rw [e]; exact (M.mem x).mp c⟩
  · rw [if_neg c]
    refine ⟨List.nodup_cons.mpr ⟨c, M.nd⟩, fun z => ?_, by rw [List.length_append, List.length_cons]; exact Nat.succ_le_succ M.len⟩
    rw [List.mem_append, List.mem_singleton, List.mem_cons, M.mem z]
    exact Or.comm
section
variable {prog : Program} {w : World} {A : Around} {R : Result → Shared → Prop} {I : Addr} {fp wr : List Addr} {G : Array GenState → Array GenState → Prop} {n : Nat} {P : Nat → Value → Prop} {St : Nat → Shared → Prop}
theorem loop_x (W : WalksS prog w A.in1 I fp wr G n P St) (S : Addr) (hSf : S ∉ fp) (xs : List Str) (hsz : xs.length = n) (hn1 : n < 4000) (hval : ∀ i v, P i v → ∃ t, v = .str (xs.getD i Str.empty) t) :
    ∀ (k i : Nat) (l : List Str) (s : Shared), n - i = k → i ≤ n → St i s → TS prog w s.heap S l → Met (xs.take i) l →
      (∀ s' l', Moved (S :: wr) G s s' → TS prog w s'.heap S l' → Met xs l' → R (.ok (.ret .none)) s') → codeAny (model prog w) A (.builtin "set.update.loop" ⟨[.ref S, .ref I], []⟩) R s := by
  have hSw : S ∉ wr := fun h => hSf (W.sub _ h)
  have sub : ∀ b ∈ wr, b ∈ S :: wr := fun b hb => List.mem_cons_of_mem _ hb
  intro k
  induction k with
  | zero =>
    intro i l s hk hi hst T M hR
    obtain rfl : i = n := by omega
    refine codeAny_builtin PyProof.Rows.F.entry_set_update_loop ?_; rw [Around.under_plainId PyProof.Rows.F.plain_set_update_loop _]
    show wpAny _ A.in1 (pyNext (.ref I) >>= _) _ _ s; refine wpAny_bind (W.done s _ _ hst fun s' hm => ?_)
    refine wpAny_pure (hR s' l (hm.mono sub) (T.at fun o e => hm.heap S _ hSw e) ?_)
    rw [← hsz, List.take_length] at M
    exact M
  | succ k ih =>
    intro i l s hk hi hst T M hR
    have hlt : i < n := by omega
    refine codeAny_builtin PyProof.Rows.F.entry_set_update_loop ?_; rw [Around.under_plainId PyProof.Rows.F.plain_set_update_loop _]
    show wpAny _ A.in1 (pyNext (.ref I) >>= _) _ _ s; refine wpAny_bind (W.item i s _ _ hlt hst fun v s' hP hst' hm => ?_)
    obtain ⟨t, rfl⟩ := hval i v hP
    have T' : TS prog w s'.heap S l := T.at fun o e => hm.heap S _ hSw e
    have hl : l.length ≤ i := Nat.le_trans M.len (by rw [List.length_take]; omega)
    show wpAny _ A.in1 (holding [Value.str (xs.getD i Str.empty) t] (setAdd S (.str (xs.getD i Str.empty) t)) >>= _) _ _ s'; refine wpAny_bind (wpAny_holding ?_)
    refine put_x T' (by unfold scanBound; omega) fun b h' T2 keep => ?_
    have M2 := M.snoc (xs.getD i Str.empty)
    have e2 : xs.take i ++ [xs.getD i Str.empty] = xs.take (i + 1) := by
      have hx : xs[i]? = some (xs.getD i Str.empty) := by
        rw [List.getD_eq_getElem?_getD, List.getElem?_eq_getElem (by omega)]
        rfl
      rw [List.take_add_one, hx]
      rfl
    rw [e2] at M2
    refine wpAny_pure ⟨plainId_quiet PyProof.Rows.F.plain_set_update_loop _, ih (i + 1) _ _ (by omega) hlt (W.frame _ s' _ _ hst' (Nat.le_succ _) fun b hb o e => keep b o (fun z => hSf (z ▸ hb)) e) T2 M2 fun s'' l' hm'' T3 M3 => ?_⟩
    exact hR s'' l' (Moved.trans W.gtrans ((hm.mono sub).then_heap (Nat.le_succ _) fun b o hb e => keep b o (fun z => hb (by rw [z]; exact List.mem_cons_self)) e) hm'') T3 M3
end
end VS
/-! VL36: set(xs), xs a list of texts. -/
namespace VS
open PySem PySem.Spec PyProof.Rows PySem.Froz
/-- a set just born -/
def newSet0 (w : World) : Obj := { cls := .type "set", dict := none, data := .set #[] 0 (.fresh 0 0 (!w.params.followText "set-order")) }
theorem new_ts {P : Program} {w : World} {h : Heap} {a : Addr} (e : h.get? a = some (newSet0 w)) : TS P w h a [] := by
  refine ⟨(#[], 0, .fresh 0 0 (!w.params.followText "set-order")), e, TxOk.nil (by rfl), List.Pairwise.nil, ?_⟩
  cases w.params.followText "set-order"
  · exact .inr rfl
  · exact .inl rfl
section
variable {P : Program} {w : World} {A : Around} {E : Value → Shared → Prop} {s : Shared}
theorem made_set (a : Value) {q : Value → Shared → Prop} (h : q (.ref s.heap.objs.size) { s with heap := s.heap.push (newSet0 w) }) : codeAny (model P w) A (.call (.builtin "set.__new__") ⟨[.type "set", a], []⟩) (wants q E) s := by
  refine codeAny_of_tree ?_
  show wpAny _ A.in1 (do checkBuiltinCall "set.__new__" ⟨[.type "set", a], []⟩; again (.builtin "set.__new__" ⟨[.type "set", a], []⟩)) _ _ s; refine wpAny_bind (wpAny_of_eq (F.newCall_set_1 a) (wpAny_pure ⟨plainId_quiet F.plain_set_new _, codeAny_builtin F.entry_set_new ?_⟩))
  rw [Around.under_plainId F.plain_set_new _]; unfold Builtin.«set.__new__» Builtin.Frozenset.newClass
  have hsub := sub_set_self
  obtain ⟨hp, g, d, tk, os⟩ := s
  dsimp only
  wp_walk
  refine wpAny_askSetting (wpAny_pure ?_)
  dsimp only; simp only [newObj]; refine wpAny_bind (wpAny_alloc (wpAny_pure (wpAny_pure h)))
theorem set_of_list {l : Addr} {items : Array Value} {xs : List Str} {Q : Value → Shared → Prop} (hh : A.handled = none) (hl : s.heap.IsList l items) (hi : PyProof.Rows.StrsAre items.toList xs) (hn1 : xs.length < 4000)
    (q : ∀ (h' : Heap) (tk : Nat) (m : List Str), TS P w h' s.heap.objs.size m → Met xs m → (∀ b o, b < s.heap.objs.size → s.heap.get? b = some o → h'.get? b = some o) → Q (.ref s.heap.objs.size) { s with heap := h', toks := tk }) :
    wpAny (model P w) A (call (.type "set") [.ref l]) Q E s := by
  obtain ⟨c, tl, hmro⟩ := PySem.F.called_set.mro; have hmade := PySem.F.called_set.made; have hsub := PySem.F.called_set.sub
  refine wpAny_call (codeAny_of_tree ?_); show wpAny _ _ (callAny (.type "set") _) _ _ _
  refine wpAny_pure ⟨Code.quiet_builtin _ (by decide +kernel), codeAny_builtin PySem.F.entry_type_call ?_⟩; rw [Around.under_plain (weight_type_call_type "set" [.ref l] []) rfl]
  have h1 := PySem.F.called_set.notType; have h2 := PySem.F.called_set.canCreate; have hct := PySem.F.typeCall_set_1 (.ref l)
  repeat (any_goals (first | assumption | wp_step))
  refine codeAny_mono (made_set (.ref l) (E := E) (q := fun obj s₁ => obj = .ref s.heap.objs.size ∧ s₁ = { s with heap := s.heap.push (newSet0 w) }) ⟨rfl, rfl⟩) fun r s₁ hr => ?_
  cases r with
  | error e => exact hr
  | ok fl =>
    cases fl with
    | ret obj =>
      obtain ⟨rfl, rfl⟩ := hr
      have hS : (s.heap.push (newSet0 w)).get? s.heap.objs.size = some (newSet0 w) := Heap.get?_push_size _ rfl
      have hT : Shared.TypeIs { s with heap := s.heap.push (newSet0 w) } (.ref s.heap.objs.size) "set" := ⟨_, hS, rfl⟩
      have hli := PySem.F.called_set.init.lookup; have hbi := PySem.F.called_set.init.bind (.ref s.heap.objs.size)
      repeat (any_goals (first | assumption | wp_step))
      refine codeAny_mono (codeAny_call_builtin (R := wants (fun r s₂ => r = .none ∧ ∃ h' tk m, s₂ = { s with heap := h', toks := tk } ∧ TS P w h' s.heap.objs.size m ∧ Met xs m ∧ (∀ b o, b < s.heap.objs.size → s.heap.get? b = some o → h'.get? b = some o)) E) PySem.F.called_set.init.plain PySem.F.entry_set_init (check_set_init_1 hT ?_)) fun r₂ s₂ hr₂ => ?_
      · obtain ⟨⟨ocls, odict, odata, oslots⟩, hol, hcl, nl, hdl⟩ := hl
        simp only at hcl hdl
        subst hcl hdl
        have hol' : (s.heap.push (newSet0 w)).get? l = some { cls := .type "list", dict := odict, data := .seq items nl, slots := oslots } := Heap.get?_push_of_some _ hol
        have hsls := PySem.F.sub_list_set; have hslf := PySem.F.sub_list_frozenset; have hne : (Value.type "list" == Value.type "dict") = false := by decide
        have hl1 : (s.heap.push (newSet0 w)).IsList l items := ⟨_, hol', rfl, nl, rfl⟩
        have z1 : (s.heap.push (newSet0 w)).objs.size = s.heap.objs.size + 1 := Heap.size_push ..
        unfold Builtin.«set.__init__» noKeywords Builtin.Frozenset.updateFrom
        generalize hPI : pyIter = PI
        wp_walk
        subst hPI
        refine wpAny_pyIter_list hl1 (wpAny_bind (wpAny_runValue ?_))
        have hlS : l < s.heap.objs.size := Heap.lt_size hol
        have hh3 : A.in1.in1.in1.handled = none := by simp [hh]
        have hneI : l ≠ (s.heap.push (newSet0 w)).objs.size := by rw [z1]; exact Nat.ne_of_lt (Nat.lt_succ_of_lt hlS)
        have hSf : s.heap.objs.size ∉ [(s.heap.push (newSet0 w)).objs.size, l] := by
          rw [z1]
          simp only [List.mem_cons, List.not_mem_nil, or_false, not_or]
          exact ⟨Nat.ne_of_lt (Nat.lt_succ_self _), Nat.ne_of_gt hlS⟩
        have hsz : xs.length = items.size := by rw [← StrsAre.len_eq hi, Array.length_toList]
        refine loop_x ((Walks.list hh3 _ l hneI items).toS) s.heap.objs.size hSf xs hsz (by rw [← hsz]; exact hn1) (fun i v hv => SS.strs_at hi i v (by rw [Array.getElem?_toList]; exact hv)) (items.size - 0) 0 [] _ (by omega) (Nat.zero_le _)
          ⟨⟨_, Heap.get?_push_size _ rfl, rfl, rfl⟩, (hl1.push _)⟩ (new_ts (Heap.get?_push_of_some _ hS)) ⟨List.nodup_nil, fun z => by simp, Nat.zero_le _⟩ fun s' m hm T M => ?_
        obtain ⟨h', g', d', tk', os'⟩ := s'
        obtain rfl : g' = s.gens := hm.gens
        obtain rfl : d' = s.drawn := hm.drawn
        obtain rfl : os' = s.os := hm.os
        show wpAny _ _ _ _ _ _
        refine wpAny_pure ?_
        show wpAny _ _ (ret Value.none) _ _ _
        refine wpAny_pure ⟨rfl, h', tk', m, rfl, T, M, fun b o hb e => ?_⟩
        refine hm.heap b o (fun z => ?_) (Heap.get?_push_of_some _ (Heap.get?_push_of_some _ e))
        simp only [List.mem_cons, List.not_mem_nil, or_false] at z
        rw [z1] at z
        rcases z with z | z
        · exact absurd hb (by rw [z]; exact Nat.lt_irrefl _)
        · exact absurd hb (by rw [z]; exact Nat.not_lt_of_le (Nat.le_succ _))
      · cases r₂ with
        | error e => exact hr₂
        | ok fl₂ =>
          cases fl₂ with
          | ret r =>
            obtain ⟨rfl, h', tk, m, rfl, T, M, k⟩ := hr₂
            repeat (any_goals (first | assumption | wp_step))
            exact q _ _ _ T M k
          | _ => exact hr₂.elim
    | _ => exact hr.elim
end
end VS
/-! VL37: sorted(set(xs)). -/
namespace VS
open PySem PySem.Spec PyProof.Rows PySem.Froz
theorem perm_keys {l m : List Str} (nd : l.Nodup) (h : ∀ z ∈ l, z ∈ m) (e : m.length = l.length) : m.Perm l := by
  induction l generalizing m with
  | nil => rw [List.length_eq_zero_iff.mp e]
  | cons x l ih =>
    obtain ⟨n1, n2⟩ := List.nodup_cons.mp nd
    have hx := h x List.mem_cons_self
    have p := List.perm_cons_erase hx
    have := ih (m := m.erase x) n2 (fun z hz => (List.mem_erase_of_ne (fun (q : z = x) => n1 (q ▸ hz))).mpr (h z (List.mem_cons_of_mem _ hz))) (by rw [List.length_erase_of_mem hx, e]; rfl)
    exact p.trans (this.cons x)
section
variable {P : Program} {w : World} {A : Around} {E : Value → Shared → Prop} {s : Shared}
theorem sorted_x {a : Addr} {l : List Str} {Q : Value → Shared → Prop} (T : TS P w s.heap a l) (nd : l.Nodup) (hh : A.handled = none) (hb : l.length < 4000)
    (q : ∀ s' p (out : Array Value) (c : Nat) (ys : List Str), (∀ b o, s.heap.get? b = some o → s'.heap.get? b = some o) → s'.gens = s.gens → s'.os = s.os → s.heap.objs.size ≤ p →
      s'.heap.get? p = some (seqObj "list" out c) → StrsAre out.toList ys → ys.Perm l → sortedS ys = true → Q (.ref p) s') : wpAny (model P w) A (call (.builtin "sorted") [.ref a]) Q E s := by
  obtain ⟨⟨es, ep, t⟩, ho, F, r, led⟩ := T
  have sz : es.size = l.length := F.sz
  refine Calls.call_function_entry kind_sorted plain_sorted entry_sorted (args_sorted1 _) ?_; unfold Builtin.«sorted»
  refine wpAny_bind (m := checkCount "sorted" 1 1 _) (wpAny_pure (wpAny_bind ?_))
  refine L2.collect_set (A := A.in1) hh ⟨_, ho, rfl, rfl⟩ F.fit (by rw [sz]; unfold scanBound; omega) r led fun s1 vs k1 hz g1 o1 pm => ?_
  have hvl : vs.length = l.length := by rw [pm.length_eq, List.length_map, Array.length_toList]; exact sz
  have good : ∀ v ∈ vs, ∃ x tk, v = Value.str x tk := fun v hv => by
    obtain ⟨e, he, rfl⟩ := List.mem_map.mp (pm.mem_iff.mp hv)
    obtain ⟨⟨x, hx, _⟩, _⟩ := F.el e he
    obtain ⟨tk, e1⟩ := Value.isStrOf_shape (x := x) (v := e.2) hx
    exact ⟨x, tk, e1⟩
  have S := strsAre_map vs good
  have pl : (vs.map strOf).Perm l := by
    refine perm_keys nd (fun z hz => ?_) (by rw [List.length_map, hvl])
    obtain ⟨e, he, hk⟩ := (F.mem z).mp hz
    obtain ⟨tk, e1⟩ := Value.isStrOf_shape (x := z) (v := e.2) hk
    exact List.mem_map.mpr ⟨e.2, pm.mem_iff.mpr (List.mem_map.mpr ⟨e, he, rfl⟩), by rw [e1]; rfl⟩
  have fit : vs.length ≤ sizeLine := by rw [hvl, sizeLine_eq]; omega
  refine wpAny_bind (wpAny_newList ?_ fit)
  have hoL : (s1.heap.push (seqObj "list" vs.toArray 0)).get? s1.heap.objs.size = some (seqObj "list" vs.toArray 0) := Heap.get?_push_size _ rfl
  refine wpAny_bind (wpAny_holding (wpAny_call_entry slot_list_sort ⟨_, hoL, rfl⟩ entry_list_sort (list_sort_treeKAny strKind_oneLt hoL S.keysOf (fun v₁ v₂ rest e => keyKind_strs (by rw [← e]; exact S)) fit fun st a1 a2 => ⟨_, rfl, ?_⟩) (args_list_sort _)))
  obtain ⟨ys, h1, h2, h3⟩ := sorted_out_str S a1 a2
  obtain ⟨c, hc⟩ := sortedHeap_at (vs := vs) (out := (arrOf st).map (·.2)) hoL
  refine wpAny_pure ⟨_, rfl, q _ s1.heap.objs.size _ c ys (fun b u e => ?_) g1 o1 hz hc h1 (h2.trans pl) h3⟩
  have e2 := k1 b u e
  have hlt := Heap.lt_size e2
  show (sortedHeap (s1.heap.push (seqObj "list" vs.toArray 0)) s1.heap.objs.size vs _).get? b = some u
  rw [sortedHeap_old (Nat.ne_of_lt hlt) (by rw [size_push']; exact Nat.lt_succ_of_lt hlt)]; exact Heap.get?_push_of_some _ e2
end
end VS
namespace L2
open PySem PySem.Spec PyProof.Rows
section
variable {X : Cx}
/-- sorted(set(xs)), xs a list of texts -/
def tSortSet (K : PySem.W.Frag) (ta : TE) : TE := fun σ H Q => ta σ H fun x H1 => ∃ l, ∃ xs : List Str, x = .ref l ∧ SqL K H1 l (xs.map V.str) ∧ xs.length < 4000 ∧
  ∀ (ys : List Str) (p : Addr), ys.Nodup → (∀ z, z ∈ ys ↔ z ∈ xs) → sortedS ys = true → H1 p = none → Q (.ref p) (upd H1 p (.lst (ys.map V.str)))
theorem pe_sortSet {a : Expr} {ta : TE} {p p2 q pos : Pos} (hc : X.calm = true) (hg : Gl X "sorted") (hm : X.mg "sorted" = none) (hg2 : Gl X "set") (hm2 : X.mg "set" = none) (ha : PE X a ta)
    (na : starEach [a] X.env = (false, eval a X.env) :: starEach [] X.env := by rfl) : PE X (.Call (.Name "sorted" p) [.Call (.Name "set" p2) [a] [] q] [] pos) (tSortSet X.K ta) := by
  refine ⟨fun pins s σ H Q I h => Call_ (ld_blt I hg hm (x := "sorted") (u := .builtin "sorted") rfl ?_)⟩
  refine PyProof.Rows.callWith_builtin1 (PyProof.Rows.args_cons (Call_ (ld_blt I hg2 hm2 (x := "set") (u := .type "set") rfl ?_)) rfl) rfl rfl
  refine PyProof.Rows.callWith_type1 (PyProof.Rows.args_cons (thn (ha.run pins s σ H _ I h) fun v s1 ⟨x, H1, I1, r1, q1⟩ => PyProof.Rows.args_nil ?_) na) na rfl
  obtain ⟨l, xs, rfl, hq, hn, q1⟩ := q1
  cases r1
  obtain ⟨its, r, pl, hz⟩ := I1.list hq
  refine VS.set_of_list (I1.ok.hd hc) pl.isList (by simpa using strsAre_of r) hn fun h' tk m T M keep => PyProof.Rows.args_nil ?_
  have I2 : Inv X pins σ H1 { s1 with heap := h', toks := tk } := I1.kept fun b o e => keep b o (Heap.lt_size e) e
  have T2 : VS.TS X.prog X.w ({ s1 with heap := h', toks := tk } : Shared).heap s1.heap.objs.size m := T
  generalize ({ s1 with heap := h', toks := tk } : Shared) = s2 at I2 T2 ⊢
  refine VS.sorted_x T2 M.nd (I2.ok.hd hc) (Nat.lt_of_le_of_lt M.len hn) fun s' p out c ys k g o hp hg' hS hm' hs => ?_
  have hlen : (ys.map V.str).length ≤ sizeLine := by rw [List.length_map, hm'.length_eq, sizeLine_eq]; have := M.len; omega
  have hn' : H1 p = none := I2.hok.fresh hp
  have J : Inv X pins σ (upd H1 p (.lst (ys.map V.str))) { s2 with heap := s'.heap, gens := s'.gens, drawn := s'.drawn, toks := s'.toks } :=
    I2.call (ch := []) (Un.laid k hp hn') (I2.hok.laid k hp ⟨hlen, out.toList, c, vals_of_strs hS, hg'⟩) (by rw [g]; exact I2.bare) (fun _ z => nomatch z)
  have e : s' = { s2 with heap := s'.heap, gens := s'.gens, drawn := s'.drawn, toks := s'.toks } := by
    cases s'
    cases s2
    cases o
    rfl
  rw [e]
  exact ⟨.ref p, _, J, rfl, q1 ys p (hm'.nodup_iff.mpr M.nd) (fun z => (hm'.mem_iff).trans (M.mem z)) hs hn'⟩
end
end L2
/-! VL38: sorted(set(xs)) by value. -/
namespace VL
open PySem L2 PySem.Spec PyProof.Rows
/-! texts in order, each once -/
def ltS (a b : Str) : Prop := a.cps.toList < b.cps.toList
theorem ltS_irr (a : Str) : ¬ ltS a a := List.lt_irrefl _
theorem ltS_trans {a b c : Str} (h : ltS a b) (h2 : ltS b c) : ltS a c := List.lt_trans h h2
theorem str_ext {a b : Str} (h : a.cps.toList = b.cps.toList) : a = b := by
  cases a
  cases b
  simp at h
  rw [h]
theorem ltS_tri {a b : Str} (h : a ≠ b) (h2 : ¬ ltS b a) : ltS a b := by
  by_cases c : ltS a b
  · exact c
  · exact absurd (str_ext (List.le_antisymm (List.not_lt.mp h2) (List.not_lt.mp c))) h
instance (a b : Str) : Decidable (ltS a b) := inferInstanceAs (Decidable (a.cps.toList < b.cps.toList))
def insU (x : Str) : List Str → List Str
  | [] => [x]
  | y :: r => if x = y then y :: r else if ltS x y then x :: y :: r else y :: insU x r
def sortU (xs : List Str) : List Str := xs.foldr insU []
theorem mem_insU (x z : Str) : ∀ l : List Str, z ∈ insU x l ↔ z = x ∨ z ∈ l
  | [] => by simp [insU]
  | y :: r => by
    unfold insU
    split
    · rename_i h
      subst h
      simp
    · split
      · simp
      · rw [List.mem_cons, mem_insU x z r, List.mem_cons]
        exact ⟨fun h => h.elim (fun e => .inr (.inl e)) fun h => h.elim .inl fun e => .inr (.inr e), fun h => h.elim (fun e => .inr (.inl e)) fun h => h.elim .inl fun e => .inr (.inr e)⟩
theorem insU_up (x : Str) : ∀ l : List Str, l.Pairwise ltS → (insU x l).Pairwise ltS
  | [], _ => by simp [insU]
  | y :: r, h => by
    obtain ⟨h1, h2⟩ := List.pairwise_cons.mp h
    unfold insU
    split
    · exact h
    · rename_i ne
      split
      · rename_i lt
        refine List.pairwise_cons.mpr ⟨fun z hz => ?_, h⟩
        rcases List.mem_cons.mp hz with e | e
        · rw [e]; exact lt
        · exact ltS_trans lt (h1 z e)
      · rename_i nl
        refine List.pairwise_cons.mpr ⟨fun z hz => ?_, insU_up x r h2⟩
        rcases (mem_insU x z r).mp hz with e | e
        · rw [e]; exact ltS_tri (fun q => ne q.symm) nl
        · exact h1 z e
theorem mem_sortU (z : Str) : ∀ xs : List Str, z ∈ sortU xs ↔ z ∈ xs
  | [] => Iff.rfl
  | x :: xs => by
    show z ∈ insU x (sortU xs) ↔ _
    rw [mem_insU, mem_sortU z xs, List.mem_cons]
theorem sortU_up : ∀ xs : List Str, (sortU xs).Pairwise ltS
  | [] => List.Pairwise.nil
  | x :: xs => insU_up x _ (sortU_up xs)
theorem up_eq : ∀ {l m : List Str}, l.Pairwise ltS → m.Pairwise ltS → (∀ z, z ∈ l ↔ z ∈ m) → l = m
  | [], [], _, _, _ => rfl
  | [], y :: m, _, _, h => absurd ((h y).mpr List.mem_cons_self) (by simp)
  | x :: l, [], _, _, h => absurd ((h x).mp List.mem_cons_self) (by simp)
  | x :: l, y :: m, a, b, h => by
    obtain ⟨a1, a2⟩ := List.pairwise_cons.mp a
    obtain ⟨b1, b2⟩ := List.pairwise_cons.mp b
    have e : x = y := by
      rcases List.mem_cons.mp ((h x).mp List.mem_cons_self) with e | e
      · exact e
      · rcases List.mem_cons.mp ((h y).mpr List.mem_cons_self) with e' | e'
        · exact e'.symm
        · exact absurd (ltS_trans (b1 x e) (a1 y e')) (ltS_irr _)
    subst e
    rw [up_eq a2 b2 fun z => ⟨fun hz => ?_, fun hz => ?_⟩]
    · rcases List.mem_cons.mp ((h z).mp (List.mem_cons_of_mem _ hz)) with e | e
      · rw [e] at hz
        exact absurd (a1 x hz) (ltS_irr _)
      · exact e
    · rcases List.mem_cons.mp ((h z).mpr (List.mem_cons_of_mem _ hz)) with e | e
      · rw [e] at hz
        exact absurd (b1 x hz) (ltS_irr _)
      · exact e
theorem rise_up : ∀ {l : List Str}, sortedS l = true → l.Nodup → l.Pairwise ltS
  | [], _, _ => List.Pairwise.nil
  | [x], _, _ => by simp
  | x :: y :: r, h, nd => by
    have h' : (!ltCps y.cps.toList x.cps.toList && risingS y r) = true := h
    rw [Bool.and_eq_true, Bool.not_eq_true'] at h'
    obtain ⟨n1, n2⟩ := List.nodup_cons.mp nd
    have ih := rise_up (l := y :: r) h'.2 n2
    have nl : ¬ ltS y x := by
      have := h'.1
      rw [ltCps_eq] at this
      exact of_decide_eq_false this
    have xy : ltS x y := ltS_tri (fun e => n1 (by rw [e]; exact List.mem_cons_self)) nl
    refine List.pairwise_cons.mpr ⟨fun z hz => ?_, ih⟩
    rcases List.mem_cons.mp hz with e | e
    · rw [e]; exact xy
    · exact ltS_trans xy ((List.pairwise_cons.mp ih).1 z e)
theorem sortU_eq {ys xs : List Str} (nd : ys.Nodup) (h : ∀ z, z ∈ ys ↔ z ∈ xs) (s : sortedS ys = true) : ys = sortU xs := up_eq (rise_up s nd) (sortU_up xs) fun z => (h z).trans (mem_sortU z xs).symm
theorem sortU_congr {xs ys : List Str} (h : ∀ z, z ∈ xs ↔ z ∈ ys) : sortU xs = sortU ys := up_eq (sortU_up xs) (sortU_up ys) fun z => (mem_sortU z xs).trans ((h z).trans (mem_sortU z ys).symm)
/-! the call -/
def strsD : List D → Option (List Str)
  | [] => some []
  | .str z :: r => (strsD r).map (z :: ·)
  | _ :: _ => none
theorem strsD_map : ∀ xs : List Str, strsD (xs.map D.str) = some xs
  | [] => rfl
  | x :: xs => by
    show (strsD (xs.map D.str)).map (x :: ·) = _
    rw [strsD_map xs]
    rfl
theorem strsD_eq : ∀ {ds : List D} {xs : List Str}, strsD ds = some xs → ds = xs.map D.str
  | [], _, h => by cases h; rfl
  | .str z :: r, xs, h => by
    obtain ⟨ys, e, rfl⟩ := Option.map_eq_some_iff.mp h
    rw [strsD_eq e]
    rfl
  | .int _ :: _, _, h => by cases h
  | .bl _ :: _, _, h => by cases h
  | .non :: _, _, h => by cases h
  | .tup _ :: _, _, h => by cases h
  | .lst _ :: _, _, h => by cases h
  | .dic _ :: _, _, h => by cases h
def fSoS : D → Option (List D)
  | .lst ds => (strsD ds).bind fun xs => if xs.length < 4000 then some ((sortU xs).map D.str) else none
  | _ => none
theorem fSoS_r {xs : List Str} (h : xs.length < 4000) : fSoS (.lst (xs.map D.str)) = some ((sortU xs).map D.str) := by
  show (strsD (xs.map D.str)).bind _ = _
  rw [strsD_map, Option.bind_some, if_pos h]
def eSoS (k : Od) (φ : EM D) : EM D := fun ρ => (φ ρ).bind fun d ρ => liftO ((fSoS (k.res d ρ)).map D.lst) ρ
@[simp] theorem eSoS_r (k : Od) (φ : EM D) (ρ : List D) : eSoS k φ ρ = (φ ρ).bind fun d ρ => liftO ((fSoS (k.res d ρ)).map D.lst) ρ := (rfl)
section
variable {K : PySem.W.Frag} {H : Hp} {W : AS}
theorem strs_fz : ∀ {xs : List Str} {vs : List V}, FzL K H W (xs.map D.str) vs → vs = xs.map V.str
  | [], _, h => h
  | x :: xs, _, ⟨v, r, h1, h2, h3⟩ => by
    rw [h1, strs_fz h3, show v = V.str x from h2]
    rfl
theorem fz_strs : ∀ xs : List Str, FzL K H W (xs.map D.str) (xs.map V.str)
  | [] => rfl
  | x :: xs => ⟨_, _, rfl, rfl, fz_strs xs⟩
end
section
variable {X : Cx} {Z : Zx} {Γ : Gx} {a : Expr} {φ : EM D} {p p2 q pos : Pos}
theorem sn_sortSet {k : Od} (hK : Z.K = X.K) (hc : X.calm = true) (hg : Gl X "sorted") (hm : X.mg "sorted" = none) (hg2 : Gl X "set") (hm2 : X.mg "set" = none) (ha : SO X Z Γ a φ k) (hk : k.ok Γ (.L .im) := by rfl)
    (na : starEach [a] X.env = (false, eval a X.env) :: starEach [] X.env := by rfl) : SN X Z Γ (.Call (.Name "sorted" p) [.Call (.Name "set" p2) [a] [] q] [] pos) (eSoS k φ) (.L .im) := PE.imp (pe_sortSet hc hg hm hg2 hm2 ha na) fun σ H Q ⟨ρ, U, R, h⟩ =>
  ⟨ρ, U, R, AftN.bind h fun d ρ1 v H1 e1 R1 p1 h => by
    obtain ⟨hv, ht⟩ := Od.vw hk R1 p1
    generalize k.res d ρ1 = y at hv ht h
    obtain ⟨ds, rfl, _⟩ := ht
    obtain ⟨b, vs, rfl, sq, fz⟩ := hv.lst
    cases e : strsD ds with
    | none =>
      have : fSoS (.lst ds) = none := by
        show (strsD ds).bind _ = _
        rw [e]
        rfl
      rw [this] at h
      exact h.elim
    | some xs =>
      have := strsD_eq e
      subst this
      by_cases hl : xs.length < 4000
      · rw [fSoS_r hl] at h
        have h : AftN Z Γ (.L .im) σ H1 U Q (.ok (.lst ((sortU xs).map D.str)) ρ1) := h
        have := strs_fz fz
        subst this
        refine ⟨b, xs, rfl, hK ▸ sq, hl, fun ys n nd mem s hn => ?_⟩
        rw [sortU_eq nd mem s]
        refine h n _ (Ext.new hn) hn (R1.new hn) (own_new R1 hn (fz_strs _)) ⟨_, rfl, fun z hz => ?_⟩
        obtain ⟨w, _, rfl⟩ := List.mem_map.mp hz
        rfl
      · have : fSoS (.lst (xs.map D.str)) = none := by
          show (strsD (xs.map D.str)).bind _ = _
          rw [strsD_map, Option.bind_some, if_neg hl]
        rw [this] at h
        exact h.elim⟩
end
end VL
/-! VL39: a value taken to be of a type; bits; index; sorted. -/
namespace VL
open PySem L2 PySem.Spec PyProof.Rows
/-! a value taken to be of a type -/
mutual
def Ty.hasB : Ty → D → Bool
  | .im, d => d.imm
  | .any, _ => true
  | .L t, d => match d with
    | .lst ds => ds.all fun x => Ty.hasB t x
    | _ => false
  | .M t, d => match d with
    | .dic kvs => kvs.all fun x => Ty.hasB t x.2
    | _ => false
  | .T ts, d => match d with
    | .tup ds => Ty.hasBL ts ds
    | _ => false
def Ty.hasBL : List Ty → List D → Bool
  | [], ds => ds.isEmpty
  | t :: ts, ds => match ds with
    | [] => false
    | d :: r => Ty.hasB t d && Ty.hasBL ts r
end
mutual
theorem Ty.hasB_ok : ∀ {t : Ty} {d : D}, Ty.hasB t d = true → t.has d
  | .im, _, h => h
  | .any, _, _ => trivial
  | .L t, d, h => by
    unfold Ty.hasB at h
    split at h
    · exact ⟨_, rfl, fun x hx => Ty.hasB_ok (List.all_eq_true.mp h x hx)⟩
    · cases h
  | .M t, d, h => by
    unfold Ty.hasB at h
    split at h
    · exact ⟨_, rfl, fun x hx => Ty.hasB_ok (List.all_eq_true.mp h x hx)⟩
    · cases h
  | .T ts, d, h => by
    unfold Ty.hasB at h
    split at h
    · exact ⟨_, rfl, Ty.hasBL_ok h⟩
    · cases h
theorem Ty.hasBL_ok : ∀ {ts : List Ty} {ds : List D}, Ty.hasBL ts ds = true → Ty.hasL ts ds
  | [], ds, h => by
    unfold Ty.hasBL at h
    cases ds with
    | nil => rfl
    | cons _ _ => cases h
  | t :: ts, ds, h => by
    unfold Ty.hasBL at h
    cases ds with
    | nil => cases h
    | cons d r =>
      have h' : (Ty.hasB t d && Ty.hasBL ts r) = true := h
      rw [Bool.and_eq_true] at h'
      exact ⟨d, r, rfl, Ty.hasB_ok h'.1, Ty.hasBL_ok h'.2⟩
end
def asT (t : Ty) (d : D) (ρ : List D) : R D := if Ty.hasB t d = true then .ok d ρ else .bad
def eAs (t : Ty) (φ : EM D) : EM D := fun ρ => (φ ρ).bind (asT t)
@[simp] theorem eAs_r (t : Ty) (φ : EM D) (ρ : List D) : eAs t φ ρ = (φ ρ).bind (asT t) := (rfl)
theorem asT_ok {t : Ty} {d : D} (h : Ty.hasB t d = true) (ρ : List D) : asT t d ρ = .ok d ρ := if_pos h
@[simp] theorem asT_int (i : Int) (ρ : List D) : asT .im (.int i) ρ = .ok (.int i) ρ := (rfl)
@[simp] theorem asT_str (i : Str) (ρ : List D) : asT .im (.str i) ρ = .ok (.str i) ρ := (rfl)
@[simp] theorem asT_non (ρ : List D) : asT .im .non ρ = .ok .non ρ := (rfl)
@[simp] theorem asT_ints (xs : List Int) (ρ : List D) : asT (.L .im) (.lst (xs.map D.int)) ρ = .ok (.lst (xs.map D.int)) ρ := asT_ok (by
  unfold Ty.hasB
  exact List.all_eq_true.mpr fun x hx => by obtain ⟨_, _, rfl⟩ := List.mem_map.mp hx; rfl) ρ
@[simp] theorem asT_strs (xs : List Str) (ρ : List D) : asT (.L .im) (.lst (xs.map D.str)) ρ = .ok (.lst (xs.map D.str)) ρ := asT_ok (by
  unfold Ty.hasB
  exact List.all_eq_true.mpr fun x hx => by obtain ⟨_, _, rfl⟩ := List.mem_map.mp hx; rfl) ρ
@[simp] theorem asT_nil (ρ : List D) : asT (.L .im) (.lst []) ρ = .ok (.lst []) ρ := (rfl)
section
variable {X : Cx} {Z : Zx} {Γ : Gx} {e : Expr} {φ : EM D} {t u : Ty}
theorem se_as (h : SE X Z Γ e φ u) : SE X Z Γ e (eAs t φ) t := PE.imp h fun σ H Q ⟨ρ, U, R, q⟩ => ⟨ρ, U, R, Aft.bind q fun d ρ1 v H1 e1 R1 p1 q => by
  by_cases c : Ty.hasB t d = true
  · rw [asT_ok c] at q
    exact q v H1 .refl R1 ⟨p1.1, Ty.hasB_ok c⟩
  · have : asT t d ρ1 = .bad := if_neg c
    rw [this] at q
    exact q.elim⟩
end
/-! bits, ints alone -/
def dAddI := d2I (fun _ _ => true) fun i j => .int (i + j)
def dAnd := d2I (fun _ _ => true) fun i j => .int (Builtin.bitAnd i j)
def dOr := d2I (fun _ _ => true) fun i j => .int (Builtin.bitOr i j)
def dShr := d2I (fun _ j => decide (0 ≤ j)) fun i j => .int (i / 2 ^ j.toNat)
def dShl := d2I (fun i j => decide (0 ≤ j ∧ j ≤ 1000000 ∧ i.natAbs < 2 ^ 64)) fun i j => .int (i * 2 ^ j.toNat)
theorem addI_s {K : PySem.W.Frag} {ta tb : Ty} : OpS K (rI0 fun i j => .int (i + j)) dAddI ta tb .im := ii0_s (fun _ _ _ _ => rfl) fun _ _ => rfl
theorem and_s {K : PySem.W.Frag} {ta tb : Ty} : OpS K (rI0 fun i j => .int (Builtin.bitAnd i j)) dAnd ta tb .im := ii0_s (fun _ _ _ _ => rfl) fun _ _ => rfl
theorem or_s {K : PySem.W.Frag} {ta tb : Ty} : OpS K (rI0 fun i j => .int (Builtin.bitOr i j)) dOr ta tb .im := ii0_s (fun _ _ _ _ => rfl) fun _ _ => rfl
theorem shr_s {K : PySem.W.Frag} {ta tb : Ty} : OpS K (rI (fun _ j => 0 ≤ j) fun i j => .int (i / 2 ^ j.toNat)) dShr ta tb .im := ii_s (fun _ _ h => of_decide_eq_true h) (fun _ _ _ _ => rfl) fun _ _ => rfl
theorem shl_s {K : PySem.W.Frag} {ta tb : Ty} : OpS K (rI CPow fun i j => .int (i * 2 ^ j.toNat)) dShl ta tb .im := ii_s (fun i j h => (show CPow i j from of_decide_eq_true (p := 0 ≤ j ∧ j ≤ 1000000 ∧ i.natAbs < 2 ^ 64) h)) (fun _ _ _ _ => rfl) fun _ _ => rfl
@[simp] theorem dAddI_r (i j : Int) : dAddI (.int i) (.int j) = some (.int (i + j)) := (rfl)
@[simp] theorem dAnd_r (i j : Int) : dAnd (.int i) (.int j) = some (.int (Builtin.bitAnd i j)) := (rfl)
@[simp] theorem dOr_r (i j : Int) : dOr (.int i) (.int j) = some (.int (Builtin.bitOr i j)) := (rfl)
theorem dShr_r {i j : Int} (h : 0 ≤ j) : dShr (.int i) (.int j) = some (.int (i / 2 ^ j.toNat)) := if_pos (decide_eq_true h)
theorem dShl_r {i j : Int} (h : 0 ≤ j ∧ j ≤ 1000000 ∧ i.natAbs < 2 ^ 64) : dShl (.int i) (.int j) = some (.int (i * 2 ^ j.toNat)) := if_pos (decide_eq_true h)
/-! xs.index(x), texts -/
def fIndex : D → D → Option D
  | .lst ds, .str z => (strsD ds).bind fun xs => if z ∈ xs then some (.int (xs.idxOf z : Nat)) else none
  | _, _ => none
theorem fIndex_r {xs : List Str} {z : Str} (h : z ∈ xs) : fIndex (.lst (xs.map D.str)) (.str z) = some (.int (xs.idxOf z : Nat)) := by
  show (strsD (xs.map D.str)).bind _ = _
  rw [strsD_map, Option.bind_some, if_pos h]
def fIndex1 (x : D) : List D → Option D
  | [y] => fIndex x y
  | _ => none
def eIndex (k : Od) (φ : EM D) (ψ : EM (List D)) : EM D := fun ρ => (φ ρ).bind fun d ρ => (ψ ρ).bind fun ys ρ => liftO (fIndex1 (k.res d ρ) ys) ρ
@[simp] theorem fIndex1_r (x y : D) : fIndex1 x [y] = fIndex x y := (rfl)
@[simp] theorem eIndex_r (k : Od) (φ : EM D) (ψ : EM (List D)) (ρ : List D) : eIndex k φ ψ ρ = (φ ρ).bind fun d ρ => (ψ ρ).bind fun ys ρ => liftO (fIndex1 (k.res d ρ) ys) ρ := (rfl)
section
variable {X : Cx} {Z : Zx} {Γ : Gx} {o e : Expr} {φ : EM D} {ψ : EM (List D)} {t u : Ty} {apos cpos : Pos}
theorem se_index {k : Od} (hK : Z.K = X.K) (ho : SO X Z Γ o φ k) (ha : SA X Z Γ [e] ψ [.v u]) (hk : k.ok Γ (.L t) := by rfl)
    (hbase : attributeBase o "index" X.env (eval o X.env) = eval o X.env := by rfl)
    (hfew : ((backTo cpos (starEach [e] X.env)).all (fun p => !p.1) && (backToKw cpos (keywordEach [] X.env)).all (fun p => p.1.isSome) && decide ([e].length + ([] : List Keyword).length + (if ([] : List Keyword).isEmpty then 0 else 1) < 30)) = true := by rfl)
    (hline : (apos.endLine == cpos.line) = true := by rfl) (hs : starEach [e] X.env = (false, eval e X.env) :: starEach [] X.env := by rfl) (hplain : (backTo cpos (starEach [] X.env)).any (·.1) = false := by rfl) :
    SE X Z Γ (.Call (.Attribute o "index" apos) [e] [] cpos) (eIndex k φ ψ) .im := PE.imp (pe_bm PySem.F.plainAttrs_list PySem.F.slot_list_index PySem.F.type_list_index mt_index ho ha hbase hfew hline hs hplain) fun σ H Q ⟨ρ, U, R, q⟩ =>
  ⟨ρ, U, R, Aft.bind q fun d ρ1 v H1 e1 R1 p1 q => by
    obtain ⟨hv, ht⟩ := Od.vw hk R1 p1
    refine ⟨?_, ρ1, U, R1, ?_⟩
    · obtain ⟨ds, e0, _⟩ := ht
      rw [e0] at hv
      obtain ⟨b, vs, rfl, sq, fz⟩ := hv.lst
      exact .inl ⟨rfl, vs, hK ▸ sq⟩
    · refine Aft.bind q fun ys ρ2 ws H2 e2 R2 p2 q => ?_
      · skip
        have p1' := Od.keep p1 e2
        obtain ⟨hv2, ht2⟩ := Od.vw hk R2 p1'
        generalize k.res d ρ2 = x at hv2 ht2 q
        obtain ⟨ds, rfl, _⟩ := ht2
        obtain ⟨b, vs, rfl, sq, fz⟩ := hv2.lst
        obtain ⟨y, r2, v2, s2, rfl, rfl, ⟨hd, _⟩, rfl, rfl⟩ := p2
        rw [fIndex1_r] at q
        cases y with
        | str z =>
          cases e3 : strsD ds with
          | none =>
            have : fIndex (.lst ds) (.str z) = none := by
              show (strsD ds).bind _ = _
              rw [e3]
              rfl
            rw [this] at q
            exact q.elim
          | some xs =>
            have := strsD_eq e3
            subst this
            have := strs_fz fz
            subst this
            by_cases hz : z ∈ xs
            · rw [fIndex_r hz] at q
              have hz' : v2 = .str z := hd
              subst hz'
              have il := List.idxOf_lt_length_iff.mpr hz
              refine ⟨b, xs.map V.str, .str z, xs.idxOf z, .str z, rfl, rfl, hK ▸ sq, rfl, List.all_eq_true.mpr fun w hw => ?_, ?_, ?_, fun m z' hm hz' => ?_, q _ H2 .refl R2 ⟨rfl, rfl⟩⟩
              · obtain ⟨x, _, rfl⟩ := List.mem_map.mp hw
                rfl
              · rw [List.getElem?_map, List.getElem?_eq_getElem il, List.getElem_idxOf il]
                rfl
              · show (z == z) = true
                exact beq_self_eq_true z
              · obtain ⟨x, hx, rfl⟩ := map_at (f := V.str) hz'
                show (x == z) = false
                have ml : m < xs.length := (List.getElem?_eq_some_iff.mp hx).1
                have nf := List.not_of_lt_findIdx (p := (· == z)) (xs := xs) (i := m) hm
                rw [(List.getElem?_eq_some_iff.mp hx).2] at nf
                exact nf
            · have : fIndex (.lst (xs.map D.str)) (.str z) = none := by
                show (strsD (xs.map D.str)).bind _ = _
                rw [strsD_map, Option.bind_some, if_neg hz]
              rw [this] at q
              exact q.elim
        | _ => exact q.elim⟩
end
end VL
/-! VL40: sorted(xs), xs a list of texts; a def that hands back a new list or None. -/
namespace VL
open PySem L2 PySem.Spec PyProof.Rows
def leS (a b : Str) : Prop := ¬ ltS b a
theorem leS_trans {a b c : Str} (h : leS a b) (h2 : leS b c) : leS a c := fun h3 => by
  by_cases e : c = b
  · subst e
    exact h h3
  · exact h (ltS_trans (ltS_tri (fun q => e q.symm) h2) h3)
def insL (x : Str) : List Str → List Str
  | [] => [x]
  | y :: r => if ltS y x then y :: insL x r else x :: y :: r
def sortL (xs : List Str) : List Str := xs.foldr insL []
theorem insL_perm (x : Str) : ∀ l : List Str, (insL x l).Perm (x :: l)
  | [] => List.Perm.refl _
  | y :: r => by
    unfold insL
    split
    · exact ((insL_perm x r).cons y).trans (List.Perm.swap x y r)
    · exact List.Perm.refl _
theorem sortL_perm : ∀ l : List Str, (sortL l).Perm l
  | [] => List.Perm.refl _
  | x :: l => (insL_perm x (sortL l)).trans ((sortL_perm l).cons x)
theorem insL_up (x : Str) : ∀ l : List Str, l.Pairwise leS → (insL x l).Pairwise leS
  | [], _ => by simp [insL]
  | y :: r, h => by
    obtain ⟨h1, h2⟩ := List.pairwise_cons.mp h
    unfold insL
    split
    · rename_i lt
      refine List.pairwise_cons.mpr ⟨fun z hz => ?_, insL_up x r h2⟩
      rcases List.mem_cons.mp ((insL_perm x r).mem_iff.mp hz) with e | e
      · rw [e]
        exact fun q => ltS_irr _ (ltS_trans lt q)
      · exact h1 z e
    · rename_i nl
      refine List.pairwise_cons.mpr ⟨fun z hz => ?_, h⟩
      rcases List.mem_cons.mp hz with e | e
      · rw [e]; exact nl
      · exact leS_trans nl (h1 z e)
theorem sortL_up : ∀ l : List Str, (sortL l).Pairwise leS
  | [] => List.Pairwise.nil
  | x :: l => insL_up x _ (sortL_up l)
theorem le_eq : ∀ {l m : List Str}, l.Pairwise leS → m.Pairwise leS → l.Perm m → l = m
  | [], m, _, _, p => (List.perm_nil.mp p.symm).symm
  | x :: l, [], _, _, p => absurd (List.perm_nil.mp p) (by simp)
  | x :: l, y :: m, a, b, p => by
    obtain ⟨a1, a2⟩ := List.pairwise_cons.mp a
    obtain ⟨b1, b2⟩ := List.pairwise_cons.mp b
    have e : x = y := by
      rcases List.mem_cons.mp (p.mem_iff.mp List.mem_cons_self) with e | e
      · exact e
      · rcases List.mem_cons.mp (p.mem_iff.mpr List.mem_cons_self) with e' | e'
        · exact e'.symm
        · by_cases q : x = y
          · exact q
          · exact absurd (ltS_tri q (a1 y e')) (b1 x e)
    subst e
    rw [le_eq a2 b2 (List.Perm.cons_inv p)]
theorem rise_le : ∀ {l : List Str}, sortedS l = true → l.Pairwise leS
  | [], _ => List.Pairwise.nil
  | [x], _ => by simp
  | x :: y :: r, h => by
    have h' : (!ltCps y.cps.toList x.cps.toList && risingS y r) = true := h
    rw [Bool.and_eq_true, Bool.not_eq_true'] at h'
    have ih := rise_le (l := y :: r) h'.2
    have xy : leS x y := by
      have := h'.1
      rw [ltCps_eq] at this
      exact of_decide_eq_false this
    refine List.pairwise_cons.mpr ⟨fun z hz => ?_, ih⟩
    rcases List.mem_cons.mp hz with e | e
    · rw [e]; exact xy
    · exact leS_trans xy ((List.pairwise_cons.mp ih).1 z e)
theorem sortL_eq {ys xs : List Str} (p : ys.Perm xs) (s : sortedS ys = true) : ys = sortL xs := le_eq (rise_le s) (sortL_up xs) (p.trans (sortL_perm xs).symm)
theorem sortL_congr {xs ys : List Str} (p : xs.Perm ys) : sortL xs = sortL ys := le_eq (sortL_up xs) (sortL_up ys) ((sortL_perm xs).trans (p.trans (sortL_perm ys).symm))
theorem sortL_len (l : List Str) : (sortL l).length = l.length := (sortL_perm l).length_eq
def fSorted : List D → Option (List D)
  | [.lst ds] => (strsD ds).bind fun xs => if xs.length < 64 then some ((sortL xs).map D.str) else none
  | _ => none
theorem fSorted_r {xs : List Str} (h : xs.length < 64) : fSorted [.lst (xs.map D.str)] = some ((sortL xs).map D.str) := by
  show (strsD (xs.map D.str)).bind _ = _
  rw [strsD_map, Option.bind_some, if_pos h]
theorem sorted_s {K : PySem.W.Frag} {t : Ty} : CaN K (rSortedS K) fSorted [t] .im := fun H W xs ds es h hf => by
  obtain ⟨d, v, rfl, rfl, hv, _⟩ := h.one
  cases d with
  | lst ds =>
    cases e : strsD ds with
    | none =>
      have : fSorted [.lst ds] = none := by
        show (strsD ds).bind _ = _
        rw [e]
        rfl
      rw [this] at hf
      cases hf
    | some zs =>
      have := strsD_eq e
      subst this
      by_cases hl : zs.length < 64
      · rw [fSorted_r hl] at hf
        cases hf
        obtain ⟨a, vs, rfl, sq, fz⟩ := hv.lst
        have := strs_fz fz
        subst this
        refine ⟨fun d hd => ?_, fun Q q => ⟨a, zs, rfl, sq, hl, fun ys p hp hs hn => ?_⟩⟩
        · obtain ⟨w, _, rfl⟩ := List.mem_map.mp hd
          rfl
        · rw [sortL_eq hp hs]
          exact q p _ hn (fz_strs _)
      · have : fSorted [.lst (zs.map D.str)] = none := by
          show (strsD (zs.map D.str)).bind _ = _
          rw [strsD_map, Option.bind_some, if_neg hl]
        rw [this] at hf
        cases hf
  | _ => cases hf
end VL
/-! VL41: a def that hands back a new list or None; code behind it, both ways. -/
namespace VL
open PySem L2
def AftO (Z : Zx) (Γ : Gx) (t : Ty) (σ : L2.St) (H : Hp) (U : AS) (Q : VK) : R D → Prop
  | .ok d ρ' => ∀ v H', Ext H (Wr Γ σ) H' → ((v = .non ∧ d = .non ∧ Rel Z.K Γ U ρ' σ H') ∨ ∃ p, v = .ref p ∧ H p = none ∧ Rel Z.K Γ (UN U p) ρ' σ H' ∧ Own Z.K H' (Wa Γ σ (UN U p)) d p ∧ t.has d) → Q v H'
  | .exc c p ρ' => ∀ cls od H', Ext H (Wr Γ σ) H' → Rel Z.K Z.ΓX U ρ' σ H' → Z.XR c p cls od H' → Z.E cls od σ H'
  | .bad => False
def TofO (Z : Zx) (Γ : Gx) (φ : EM D) (t : Ty) : TE := fun σ H Q => ∃ ρ U, Rel Z.K Γ U ρ σ H ∧ AftO Z Γ t σ H U Q (φ ρ)
abbrev SNo (X : Cx) (Z : Zx) (Γ : Gx) (e : Expr) (φ : EM D) (t : Ty) : Prop := PE X e (TofO Z Γ φ t)
section
variable {X : Cx} {Z : Zx} {L : Lp} {Γ Γ' Γ2 : Gx} {e : Expr} {es : List Expr} {rest : List Stmt} {φ : EM D} {ψ : EM (List D)} {β1 β2 : SM} {t u : Ty} {ks : List AK} {sg : Gx} {rk : RK} {m : List D → R D} {dds : List D} {dvs : List V} {CX : CXT} {k : Nat} {f : Addr} {fd : FuncData} {ps : List Str} {x : Str} {p pos : Pos} {dsv : List Value} {E : XK}
theorem AftO.later {σ : L2.St} {H H1 : Hp} {U : AS} {Q : VK} {r : R D} (q : AftO Z Γ t σ H U Q r) (e : Ext H (Wr Γ σ) H1) : AftO Z Γ t σ H1 U Q r := by
  cases r with
  | ok d ρ' => exact fun v H' e' h => q v H' (e.trans e') (h.imp id fun ⟨p, h1, h2, h3⟩ => ⟨p, h1, e.fresh h2, h3⟩)
  | exc c p ρ' => exact fun cls od H' e' => q cls od H' (e.trans e')
  | bad => exact q
theorem AftO.bind {α β : Type} {P : α → β → L2.St → Hp → AS → Prop} {σ : L2.St} {H : Hp} {U : AS} {Q : VK} {Q' : β → Hp → Prop} {x : R α} {f : α → List D → R D} (q : AftO Z Γ t σ H U Q (x.bind f))
    (k : ∀ a ρ1 y H1, Ext H (Wr Γ σ) H1 → Rel Z.K Γ U ρ1 σ H1 → P a y σ H1 (Wa Γ σ U) → AftO Z Γ t σ H1 U Q (f a ρ1) → Q' y H1) : Aft Z Γ P σ H U Q' x := by
  cases x with
  | bad => exact q
  | exc c p ρ' => exact q
  | ok a ρ' => exact fun y H' e' R' p' => k a ρ' y H' e' R' p' (AftO.later q e')
theorem call_no {σ : L2.St} {H : Hp} {Q : VK} {E : XK} (hk : rk = .no t) (hf : AK.fit Γ ks sg = true) (ho : AK.once ks = true) (hl : (ks.length + dds.length == sg.length) = true) (hd : ∀ H W, FzL Z.K H W dds dvs) (hdi : D.immL dds = true)
    (ap : AK.apart ks sg rk = true) (hX : Gx.le Γ Z.ΓX = true) (hE : ∀ cls od H, Z.E cls od σ H → E cls od H) (h : TofO Z Γ (eCall m ks dds ψ) t σ H Q) : Tof Z Γ ψ (Pa Z.K ks) σ H fun vs H1 => spF Z.K Z.XR sg rk m (vs ++ dvs) H1 Q E := by
  obtain ⟨ρ, U, R, q⟩ := h
  refine ⟨ρ, U, R, AftO.bind q fun ds ρ1 vs H1 e1 R1 pa q => ?_⟩
  have hl' : ks.length + dds.length = sg.length := beq_iff_eq.mp hl
  obtain ⟨Rc, hwr⟩ := rel_call R1 pa hf ho hl' (hd H1 _) hdi
  have ap' : ((AK.bs ks).isEmpty || (Gx.flat sg && rk.flat)) = true := ap
  rw [Bool.or_eq_true, Bool.and_eq_true] at ap'
  have wsub : ∀ x, Wr sg ((vs ++ dvs).map some) x → Wr Γ σ x := fun x z => by
    obtain ⟨j, u', h1, h2⟩ := z
    obtain ⟨i, t', k1, k2, k3, k4⟩ := o_own hf h1
    obtain ⟨d, v, q1, q2, q3, q4⟩ := Pa.at pa k1
    rw [List.getElem?_map, List.getElem?_append_left (List.getElem?_eq_some_iff.mp q2).1, q2] at h2
    cases h2
    exact ⟨i, t', k2, q3⟩
  refine ⟨_, _, by rw [List.length_append, pa.len.1, ← (hd H1 (fun _ => False)).length]; exact hl', Rc, ?_⟩
  have back0 : ∀ {outs : List D} {H' : Hp}, Ext H1 (Wr sg ((vs ++ dvs).map some)) H' → Rel Z.K (ioG sg) (Uc ks Γ σ U) outs ((vs ++ dvs).map some) H' → Rel Z.K Γ U (AK.back ks outs ρ1) σ H' := fun {outs H'} e R' => by
    obtain ⟨q1, _⟩ := rel_back (N := fun _ => False) (sg := sg) (dvs := dvs) (outs := outs) R1 pa hf ho rfl hwr (ap'.imp id fun z => z.1) e (fun _ z => z.elim) (fun _ z => z.elim) (R'.lessU fun x z => z.elim id fun z => z.elim)
    exact q1.lessU fun x z => .inl z
  revert q
  show AftO Z Γ t σ H1 U Q (match m (AK.resL ks ds ρ1 ++ dds) with | .ok d outs => .ok d (AK.back ks outs ρ1) | .exc c p outs => .exc c p (AK.back ks outs ρ1) | .bad => .bad) → _
  cases m (AK.resL ks ds ρ1 ++ dds) with
  | bad => exact fun q => q
  | exc c p outs => exact fun q cls od H' e R' xr => hE cls od H' (q cls od H' (e.mono wsub) ((back0 e R').weak hX) xr)
  | ok d outs =>
    intro q v H' e r
    rw [hk] at r
    rcases r with ⟨rfl, rfl, R'⟩ | ⟨p, rfl, hp, R', o', hh⟩
    · exact q .non H' (e.mono wsub) (.inl ⟨rfl, rfl, back0 e R'⟩)
    · obtain ⟨R2, up⟩ := rel_back (N := fun x => x = p) (sg := sg) (dvs := dvs) (outs := outs) R1 pa hf ho rfl hwr (ap'.imp id fun z => z.1) e (fun x z => by rw [z]; exact hp) (fun x z => by rw [z]; exact o'.there) R'
      refine q (.ref p) H' (e.mono wsub) (.inr ⟨p, rfl, hp, R2, ?_, hh⟩)
      rcases ap' with hb | ⟨_, hb⟩
      · exact o'.mono fun x z => .inl (up x hb z)
      · rw [hk] at hb
        exact o'.flat hb hh
theorem sno_call (F : FnOk X.prog X.w X.K X.mg X.base CX k f fd ps (spF Z.K Z.XR sg (.no t) m)) (hr : Room k X.A) (hg : Gl X x) (hm : X.mg x = some (.ref f)) (hkp : PySem.W.keepIn X.K (.ref f) = true) (hb : Binds X.K fd ps dsv) (hdv : Vals dvs dsv) (hx : Passes CX X E)
    (hE : ∀ cls od σ H, Z.E cls od σ H → E cls od H) (ha : SA X Z Γ (e :: es) ψ ks) (hd : ∀ H W, FzL Z.K H W dds dvs) (hf : AK.fit Γ ks sg = true := by rfl) (ho : AK.once ks = true := by decide) (hl : (ks.length + dds.length == sg.length) = true := by rfl)
    (hdi : D.immL dds = true := by rfl) (ap : AK.apart ks sg (.no t) = true := by rfl) (hX : Gx.le Γ Z.ΓX = true := by rfl) (hdb : (x == ("__debug__" : Str)) = false := by decide)
    (he : starEach (e :: es) X.env = (false, eval e X.env) :: starEach es X.env := by rfl) (hpl : (backTo pos (starEach es X.env)).any (·.1) = false := by rfl) :
    SNo X Z Γ (.Call (.Name x p) (e :: es) [] pos) (eCall m ks dds ψ) t := PE.imp (pe_call F hr hg hm hkp hb hdv hx ha hdb he hpl) fun σ H Q h => call_no (E := E) rfl hf ho hl hd hdi ap hX (fun cls od H z => hE cls od σ H z) h
/-- given up -/
theorem SNo.fz (h : SNo X Z Γ e φ t) : SE X Z Γ e φ .any := PE.imp h fun σ H Q ⟨ρ, U, R, q⟩ => by
  refine ⟨ρ, U, R, ?_⟩
  revert q
  cases φ ρ with
  | bad => exact fun q => q
  | exc c p ρ' => exact fun q => q
  | ok d ρ' =>
    intro q v H' e1 h
    rcases h with ⟨rfl, rfl, R1⟩ | ⟨p, rfl, hp, R1, o1, td⟩
    · exact q .non H' e1 R1 ⟨rfl, trivial⟩
    · have sub : ∀ x, U x → UN U p x := fun x z => .inl z
      exact q (.ref p) H' e1 (R1.lessU sub) ⟨o1.fz (fun z => z.elim R1.notWr fun z => R.trk p z hp) fun x z => .inl (wa_sub sub x z), trivial⟩
/-! ways out of such a def -/
theorem ss_retNo0 (he : SE X Z Γ e (eC .non) t) (hk : Z.rk = .no u := by rfl) (hw : Gx.le Γ Z.Γr = true := by rfl) (hX : Gx.le Γ Z.ΓX = true := by rfl) : SS X Z L Γ Γ' (.Return (some e) pos) (sRet (eC .non)) := PS.imp (ps_ret he) fun D σ H ⟨ρ, U, R, q⟩ =>
  ⟨ρ, U, R, fun v H1 e1 R1 p1 => by
    have hv : v = .non := p1.1
    subst hv
    refine q .non σ H1 ⟨e1, fun _ _ _ => rfl⟩ ?_
    unfold Rok
    rw [hk]
    exact .inl ⟨rfl, rfl, R1.weak hw⟩⟩
theorem ss_retNoN (he : SN X Z Γ e φ t) (hk : Z.rk = .no u := by rfl) (ht : t.le u = true := by rfl) (hw : Gx.le Γ Z.Γr = true := by rfl) (hX : Gx.le Γ Z.ΓX = true := by rfl) : SS X Z L Γ Γ' (.Return (some e) pos) (sRet φ) := PS.imp (ps_ret he) fun D σ H ⟨ρ, U, R, q⟩ => by
  refine ⟨ρ, U, R, ?_⟩
  unfold sRet at q
  revert q
  cases φ ρ with
  | bad => exact fun q => q
  | exc c p ρ' => exact fun q cls od H1 e R xr => q cls od σ H1 ⟨e, fun _ _ _ => rfl⟩ (fun x z => .inl (Gx.le_wr hX x z)) R xr
  | ok d ρ' =>
    intro q p H' e1 hp R1 o1 td
    refine q (.ref p) σ H' ⟨e1, fun _ _ _ => rfl⟩ ?_
    unfold Rok
    rw [hk]
    exact .inr ⟨p, rfl, .inr hp, R1.weak hw, o1.mono fun x z => .inl (z.imp (Gx.le_wr hw x) id), Ty.le_has ht td⟩
theorem sss_bad {s : List Stmt} : SSs X Z L Γ Γ' s sBad := ⟨fun _ _ _ _ _ _ ⟨_, _, _, q⟩ => (show False from q).elim⟩
/-! code behind, both ways -/
def sSplit (i : Nat) (φ : EM D) (β1 β2 : SM) : SM := fun ρ => (φ ρ).bind fun d ρ => match d with
  | .non => β2 (ρ.set i .non)
  | d => β1 (ρ.set i d)
@[simp] theorem sSplit_r (i : Nat) (φ : EM D) (β1 β2 : SM) (ρ : List D) : sSplit i φ β1 β2 ρ = (φ ρ).bind fun d ρ => match d with
  | .non => β2 (ρ.set i .non)
  | d => β1 (ρ.set i d) := (rfl)
theorem hasL_ne {t : Ty} : ∀ d, (Ty.L t).has d → d ≠ .non := fun d h e => by
  subst e
  obtain ⟨_, h, _⟩ := h
  cases h
theorem hasM_ne {t : Ty} : ∀ d, (Ty.M t).has d → d ≠ .non := fun d h e => by
  subst e
  obtain ⟨_, h, _⟩ := h
  cases h
theorem PSs.or {s : List Stmt} {t1 t2 : TS} (h1 : PSs X s t1) (h2 : PSs X s t2) : PSs X s fun D σ H => t1 D σ H ∨ t2 D σ H := ⟨fun pins s σ H D I q => q.elim (h1.run pins s σ H D I) (h2.run pins s σ H D I)⟩
theorem sss_split {i : Nat} {x : Str} {pos' : Pos} (hN : X.N.Nodup) (hi : X.N[i]? = some x) (hx : Loc X.env.scope x) (he : SNo X Z Γ e φ t) (h1 : SSs X Z L (Γ.set i (.own t)) Γ2 rest β1) (h2 : SSs X Z L (Γ.set i (.fz .im)) Γ2 rest β2) (hnt : ∀ d, t.has d → d ≠ .non) (hX : Gx.le Γ Z.ΓX = true := by rfl) (hr : Z.Γr[i]? = some .un := by rfl)
    (hs : swapsWith e (some (.Name x pos')) pos.line X.env = pure false := by rfl) (hf : X.fn x = true ∨ X.env.scope.names.lookup x = some .local := by first | exact .inl rfl | exact .inr rfl | assumption) :
    SSs X Z L Γ Γ2 (.Assign [.Name x pos'] e pos :: rest) (sSplit i φ β1 β2) := PSs.imp (pss_cons (ps_set hN hi hx he hs hf) (PSs.or h1 h2)) fun D σ H ⟨ρ, U, R, q⟩ => by
  refine ⟨ρ, U, R, ?_⟩
  unfold sSplit at q
  revert q
  cases φ ρ with
  | bad => exact fun q => q
  | exc c p ρ' => exact fun q cls od H1 e R xr => q cls od σ H1 ⟨e, fun _ _ _ => rfl⟩ (fun x z => .inl (Gx.le_wr hX x z)) R xr
  | ok d ρ' =>
    intro q v H' e1 h
    rcases h with ⟨rfl, rfl, R1⟩ | ⟨p, rfl, hp, R1, o1, td⟩
    · refine .inr ⟨ρ'.set i .non, U, R1.set i rfl rfl, ?_⟩
      exact SAft.later q ⟨e1, (stp_set (Γ := Γ) (H := H') hr).io⟩ fun x z => .inl (wr_set_fz (fun _ z => by cases z) x z)
    · refine .inl ⟨ρ'.set i d, U, R1.setOwn (fun z => R.trk p z hp) i o1 td, ?_⟩
      have nd := hnt d td
      have q : SAft Z L Γ Γ2 σ H U D (β1 (ρ'.set i d)) := by
        cases d <;> first | exact q | exact absurd rfl nd
      exact SAft.later q ⟨e1, (stp_set (Γ := Γ) (H := H') hr).io⟩ fun x z => (wr_set_own x z).imp id fun z => by rw [z]; exact hp
end
end VL
/-! VL42: sets of texts as bits by their places. -/
namespace VL
open PySem L2 PySem.Spec PyProof.Rows
@[simp] theorem sPut_r (i : Nat) (φi φ : EM D) (ρ : List D) : sPut i φi φ ρ = (φ ρ).bind fun d ρ => (φi ρ).bind fun k ρ => match ρ.getD i .non, k with
  | .lst ds, .int j => match ixN ds.length j with
    | some n => .ok .nx (ρ.set i (.lst (ds.set n d)))
    | none => .bad
  | _, _ => .bad := (rfl)
@[simp] theorem ix4_0 : ixN 4 0 = some 0 := (rfl)
@[simp] theorem ix4_2 : ixN 4 2 = some 2 := (rfl)
def mask : List Str → (Str → Bool) → Int
  | [], _ => 0
  | x :: r, f => (if f x = true then 1 else 0) + 2 * mask r f
theorem mask_nn : ∀ (l : List Str) (f : Str → Bool), 0 ≤ mask l f
  | [], _ => Int.le_refl _
  | x :: r, f => by
    have := mask_nn r f
    unfold mask
    split <;> omega
theorem mask_half (x : Str) (r : List Str) (f : Str → Bool) : mask (x :: r) f / 2 = mask r f ∧ mask (x :: r) f % 2 = if f x = true then 1 else 0 := by
  show ((if f x = true then 1 else 0) + 2 * mask r f) / 2 = _ ∧ ((if f x = true then 1 else 0) + 2 * mask r f) % 2 = _
  split <;> omega
theorem mask_and : ∀ (l : List Str) (f g : Str → Bool), Builtin.bitAnd (mask l f) (mask l g) = mask l fun z => f z && g z
  | [], _, _ => (show Builtin.bitAnd 0 0 = 0 by decide)
  | x :: r, f, g => by
    obtain ⟨a1, a2⟩ := mask_half x r f
    obtain ⟨b1, b2⟩ := mask_half x r g
    rw [PySem.W.kbt_halves, a1, a2, b1, b2, mask_and r f g]
    show _ = (if (f x && g x) = true then 1 else 0) + 2 * mask r fun z => f z && g z
    cases f x <;> cases g x <;> simp <;> omega
theorem mask_sum : ∀ (l : List Str) (f g : Str → Bool), mask l f + mask l g - mask l (fun z => f z && g z) = mask l fun z => f z || g z
  | [], _, _ => rfl
  | x :: r, f, g => by
    have := mask_sum r f g
    show (if f x = true then 1 else 0) + 2 * mask r f + ((if g x = true then 1 else 0) + 2 * mask r g) - ((if (f x && g x) = true then 1 else 0) + 2 * mask r fun z => f z && g z) = (if (f x || g x) = true then 1 else 0) + 2 * mask r fun z => f z || g z
    cases f x <;> cases g x <;> simp <;> omega
theorem mask_or (l : List Str) (f g : Str → Bool) : Builtin.bitOr (mask l f) (mask l g) = mask l fun z => f z || g z := by
  rw [bitOr_and, mask_and, mask_sum]
theorem mask_less : ∀ (l : List Str) (f g : Str → Bool), mask l f - mask l (fun z => f z && g z) = mask l fun z => f z && !g z
  | [], _, _ => rfl
  | x :: r, f, g => by
    have := mask_less r f g
    show (if f x = true then 1 else 0) + 2 * mask r f - ((if (f x && g x) = true then 1 else 0) + 2 * mask r fun z => f z && g z) = (if (f x && !g x) = true then 1 else 0) + 2 * mask r fun z => f z && !g z
    cases f x <;> cases g x <;> simp <;> omega
theorem mask_none : ∀ l : List Str, mask l (fun _ => false) = 0
  | [] => rfl
  | x :: r => by
    show (if false = true then 1 else 0) + 2 * mask r (fun _ => false) = 0
    rw [mask_none r]
    rfl
theorem mask_congr : ∀ {l : List Str} {f g : Str → Bool}, (∀ z ∈ l, f z = g z) → mask l f = mask l g
  | [], _, _, _ => rfl
  | x :: r, f, g, h => by
    show (if f x = true then 1 else 0) + 2 * mask r f = (if g x = true then 1 else 0) + 2 * mask r g
    rw [h x List.mem_cons_self, mask_congr fun z hz => h z (List.mem_cons_of_mem _ hz)]
theorem mask_one : ∀ {l : List Str} {z : Str}, l.Nodup → z ∈ l → mask l (fun y => decide (y = z)) = 2 ^ l.idxOf z
  | [], _, _, h => by cases h
  | x :: r, z, nd, h => by
    obtain ⟨n1, n2⟩ := List.nodup_cons.mp nd
    show (if decide (x = z) = true then 1 else 0) + 2 * mask r (fun y => decide (y = z)) = _
    by_cases e : x = z
    · subst e
      have : mask r (fun y => decide (y = x)) = 0 := by
        rw [mask_congr (g := fun _ => false) fun y hy => decide_eq_false fun (q : y = x) => n1 (q ▸ hy), mask_none]
      rw [this, List.idxOf_cons_self]
      simp
    · have hz : z ∈ r := (List.mem_cons.mp h).resolve_left fun q => e q.symm
      have ix : (x :: r).idxOf z = r.idxOf z + 1 := by
        rw [List.idxOf_cons, beq_eq_false_iff_ne.mpr e]
        rfl
      rw [mask_one n2 hz, ix]
      simp [e, Int.pow_succ]
      omega
theorem mask_bit : ∀ {l : List Str} {i : Nat} {z : Str} (f : Str → Bool), l[i]? = some z → Builtin.bitAnd (mask l f / 2 ^ i) 1 = if f z = true then 1 else 0
  | [], i, z, f, h => by simp at h
  | x :: r, 0, z, f, h => by
    have e : x = z := by simpa using h
    subst e
    rw [bitAnd_m1, Int.pow_zero, Int.ediv_one]
    exact (mask_half x r f).2
  | x :: r, i + 1, z, f, h => by
    have h' : r[i]? = some z := by simpa using h
    rw [show (2 : Int) ^ (i + 1) = 2 * 2 ^ i by rw [Int.pow_succ, Int.mul_comm], ← Int.ediv_ediv_of_nonneg (by decide), (mask_half x r f).1]
    exact mask_bit f h'
theorem and_all (x : Int) (h : 0 ≤ x ∨ x = -1) : Builtin.bitAnd (-1) x = x := by
  rcases h with h | rfl
  · rw [bitAnd_comm, bitAnd_pn h (by decide)]
    have : (Builtin.bitNot (-1)).toNat = 0 := rfl
    rw [this, Nat.and_zero]
    simp
  · decide
theorem and_all' (x : Int) (h : 0 ≤ x ∨ x = -1) : Builtin.bitAnd x (-1) = x := by rw [bitAnd_comm, and_all x h]
theorem or_all (x : Int) (h : 0 ≤ x ∨ x = -1) : Builtin.bitOr (-1) x = -1 := by
  rw [bitOr_and, and_all x h]
  omega
theorem or_all' (x : Int) (h : 0 ≤ x ∨ x = -1) : Builtin.bitOr x (-1) = -1 := by
  rw [bitOr_and, and_all' x h]
  omega
/-! what is wanted: everything, or some -/
abbrev Wt := Option (Str → Bool)
def Wt.bits (l : List Str) : Wt → Int
  | none => -1
  | some f => mask l f
def Wt.both : Wt → Wt → Wt
  | some f, some g => some fun z => f z || g z
  | _, _ => none
def Wt.common : Wt → Wt → Wt
  | none, w => w
  | w, none => w
  | some f, some g => some fun z => f z && g z
def Wt.less (w : Wt) (ns : List Str) : Wt := w.map fun f z => f z && !decide (z ∈ ns)
theorem Wt.ok (l : List Str) : ∀ w : Wt, 0 ≤ w.bits l ∨ w.bits l = -1
  | none => .inr rfl
  | some f => .inl (mask_nn l f)
theorem Wt.or (l : List Str) : ∀ v w : Wt, Builtin.bitOr (v.bits l) (w.bits l) = (v.both w).bits l
  | none, w => or_all _ (w.ok l)
  | some f, none => or_all' _ (Wt.ok l (some f))
  | some f, some g => mask_or l f g
theorem Wt.and (l : List Str) : ∀ v w : Wt, Builtin.bitAnd (v.bits l) (w.bits l) = (v.common w).bits l
  | none, none => (show Builtin.bitAnd (-1) (-1) = -1 by decide)
  | none, some g => and_all _ (Wt.ok l (some g))
  | some f, none => and_all' _ (Wt.ok l (some f))
  | some f, some g => mask_and l f g
theorem Wt.bits_neg (l : List Str) : ∀ w : Wt, w.bits l = -1 ↔ w = none
  | none => ⟨fun _ => rfl, fun _ => rfl⟩
  | some f => ⟨fun h => by have := mask_nn l f; have h : mask l f = -1 := h; omega, fun h => by cases h⟩
theorem Wt.sub (l : List Str) (f : Str → Bool) (ns : List Str) : mask l f - Builtin.bitAnd (mask l f) (mask l fun z => decide (z ∈ ns)) = (Wt.less (some f) ns).bits l := by
  rw [mask_and, mask_less]
  rfl
end VL
/-! VL43: zip of a tuple and a list. -/
namespace RZ2
open PySem PySem.Spec PyProof.Rows L2 RZ
open PySem.Sem (wp)
/-- the source it, over l, that stands as G tells -/
structure Src (it l : Addr) (G : Heap → Prop) : Prop where
  fr : ∀ {u u' : Heap} {c : Addr}, Heap.ExtBut c u u' → it ≠ c → l ≠ c → G u → G u'
/-- it hands out x, and stands as G' tells then -/
def Out (P : Program) (w : World) (it : Addr) (x : Value) (G G' : Heap → Prop) : Prop :=
  ∀ (A : Around) (E : Value → Shared → Prop) (t : Shared) (Q : Value → Shared → Prop), G t.heap → (∀ u', G' u' → Heap.SameBut it t.heap u' → Q x { t with heap := u' }) → wpAny (model P w) A (Builtin.SmallTypes.nextOf (.ref it)) Q E t
/-- it has no more -/
def Dry (P : Program) (w : World) (it : Addr) (G : Heap → Prop) : Prop :=
  ∀ (A : Around) (E : Value → Shared → Prop) (t : Shared) (Q : Value → Shared → Prop), A.handled = none → G t.heap → (∀ u' e, Heap.ExtBut it t.heap u' → (∃ o, u'.get? e = some o ∧ o.cls = .type "StopIteration") → E (.ref e) { t with heap := u' }) → wpAny (model P w) A (Builtin.SmallTypes.nextOf (.ref it)) Q E t
section
variable {P : Program} {w : World} {A : Around} {E : Value → Shared → Prop} {t : Shared} {G1 G2 G1' G2' : Heap → Prop} {z TI TO i1 i2 l1 l2 : Addr} {x y a b : Value}
theorem two_out {Q : Value → Shared → Prop} (D : ZipApart z TI TO i1 i2 l1 l2) (S1 : Src i1 l1 G1) (S1' : Src i1 l1 G1') (S2 : Src i2 l2 G2) (S2' : Src i2 l2 G2') (O1 : Out P w i1 x G1 G1') (O2 : Out P w i2 y G2 G2')
    (gz : IsZip t.heap z TI TO .none) (gI : IsPair t.heap TI (.ref i1) (.ref i2)) (gO : IsPair t.heap TO a b) (g1 : G1 t.heap) (g2 : G2 t.heap)
    (hQ : ∀ u', IsZip u' z TI TO (rawInt t.heap.objs.size) → IsPair u' TO x y → G1' u' → G2' u' → IsPair u' t.heap.objs.size x y → u'.objs.size = t.heap.objs.size + 1 →
      (∀ c o, c ≠ z → c ≠ TO → c ≠ i1 → c ≠ i2 → t.heap.get? c = some o → u'.get? c = some o) → Q (.ref t.heap.objs.size) { t with heap := u' }) :
    wpAny (model P w) A (Builtin.«zip.__next__» ⟨[.ref z], []⟩) (fun fin t' => ∃ v, fin = .done (.ret v) ∧ Q v t') E t := by
  show wpAny _ _ (field (.ref z) 2 >>= _) _ _ _
  refine wpAny_bind (wpAny_field gz rfl (x := .bool false) rfl ?_)
  show wpAny _ _ (field (.ref z) 3 >>= _) _ _ _
  refine wpAny_bind (wpAny_field gz rfl (x := .ref TI) rfl ?_)
  refine wpAny_bind (wpAny_seqItems gI rfl ?_)
  show wpAny _ _ (Builtin.SmallTypes.ownedTupleIsFree (.ref z) >>= _) _ _ _
  refine wpAny_bind ?_
  unfold Builtin.SmallTypes.ownedTupleIsFree
  refine wpAny_bind (wpAny_field gz rfl (x := .none) rfl (wpAny_pure ?_))
  simp only [if_true]
  refine wpAny_bind (wpAny_rule ?_)
  refine wpAny_bind (wpAny_field gz rfl (x := .ref TO) rfl ?_)
  refine wpAny_bind (wpAny_setField_rec gz (by simp) fun u1 gz1 s1 => ?_)
  replace gz1 : IsZip u1 z TI TO .ellipsis := gz1
  refine wpAny_bind ?_
  simp only [List.zipIdx_cons, List.zipIdx_nil, List.forIn_cons, List.forIn_nil]
  refine wpAny_bind (wpAny_bind (wpAny_onRaise ?_))
  show wpAny _ _ (Builtin.SmallTypes.nextOf (.ref i1) >>= _) _ _ _
  refine wpAny_bind (O1 _ _ _ _ (S1.fr s1.extBut D.i1z D.l1z g1) fun u2 g12 s2 => wpAny_pure ?_)
  have gO2 : IsPair u2 TO a b := s2.extBut _ _ D.TOi1 (s1.extBut _ _ D.TOz gO)
  refine wpAny_bind (wpAny_seqItems gO2 rfl ?_)
  refine wpAny_bind (wpAny_updateSeq_pair gO2 fun u3 gO3 s3 => ?_)
  replace gO3 : IsPair u3 TO x b := gO3
  refine wpAny_bind (wpAny_letGo (wpAny_pure ?_))
  refine wpAny_bind (wpAny_bind (wpAny_onRaise ?_))
  show wpAny _ _ (Builtin.SmallTypes.nextOf (.ref i2) >>= _) _ _ _
  have g23 : G2 u3 := S2.fr s3.extBut D.TOi2.symm D.l2TO (S2.fr s2.extBut D.i12.symm D.l2i1 (S2.fr s1.extBut D.i2z D.l2z g2))
  refine wpAny_bind (O2 _ _ _ _ g23 fun u4 g24 s4 => wpAny_pure ?_)
  have gO4 : IsPair u4 TO x b := s4.extBut _ _ D.TOi2 gO3
  refine wpAny_bind (wpAny_seqItems gO4 rfl ?_)
  refine wpAny_bind (wpAny_updateSeq_pair gO4 fun u5 gO5 s5 => ?_)
  replace gO5 : IsPair u5 TO x y := gO5
  refine wpAny_bind (wpAny_letGo (wpAny_pure (wpAny_pure ?_)))
  refine wpAny_bind (wpAny_seqItems gO5 rfl ?_)
  refine wpAny_bind (wpAny_newTuple ?_)
  have sz5 : u5.objs.size = t.heap.objs.size := by rw [s5.1, s4.1, s3.1, s2.1, s1.1]
  have gz5 : IsZip u5 z TI TO .ellipsis := s5.extBut _ _ D.TOz.symm (s4.extBut _ _ D.i2z.symm (s3.extBut _ _ D.TOz.symm (s2.extBut _ _ D.i1z.symm gz1)))
  have k5 : ∀ c o, c ≠ z → c ≠ TO → c ≠ i1 → c ≠ i2 → t.heap.get? c = some o → u5.get? c = some o := fun c o c1 c2 c3 c4 e =>
    s5.extBut _ _ c2 (s4.extBut _ _ c4 (s3.extBut _ _ c2 (s2.extBut _ _ c3 (s1.extBut _ _ c1 e))))
  have g15 : G1' u5 := S1'.fr s5.extBut D.TOi1.symm D.l1TO (S1'.fr s4.extBut D.i12 D.l1i2 (S1'.fr s3.extBut D.TOi1.symm D.l1TO g12))
  have g25 : G2' u5 := S2'.fr s5.extBut D.TOi2.symm D.l2TO g24
  have ltz : z < u5.objs.size := Heap.lt_size gz5
  show wpAny _ _ (Builtin.SmallTypes.ownedTupleHandOut (.ref z) (.ref u5.objs.size) >>= _) _ _ _
  refine wpAny_bind ?_
  unfold Builtin.SmallTypes.ownedTupleHandOut
  have gz6 : IsZip (u5.push { cls := .type "tuple", data := .seq #[x, y] }) z TI TO .ellipsis := Heap.get?_push_of_some _ gz5
  refine wpAny_bind (wpAny_setField_rec gz6 (by simp) fun u7 gz7 s7 => ?_)
  replace gz7 : IsZip u7 z TI TO (rawInt u5.objs.size) := gz7
  refine wpAny_setField_rec gz7 (by simp) fun u8 gz8 s8 => ?_
  replace gz8 : IsZip u8 z TI TO (rawInt u5.objs.size) := gz8
  have up : ∀ c o, c ≠ z → u5.get? c = some o → u8.get? c = some o := fun c o c1 e => s8.extBut _ _ c1 (s7.extBut _ _ c1 (Heap.get?_push_of_some _ e))
  have up' : Heap.ExtBut z u5 u8 := fun c o c1 e => up c o c1 e
  have gT8 : IsPair u8 u5.objs.size x y := s8.extBut _ _ (Nat.ne_of_gt ltz) (s7.extBut _ _ (Nat.ne_of_gt ltz) (Heap.get?_push_size _ rfl))
  have sz8 : u8.objs.size = u5.objs.size + 1 := by rw [s8.1, s7.1, Heap.size_push]
  rw [sz5] at gz8 gT8 sz8
  refine wpAny_pure ⟨_, rfl, ?_⟩
  show Q (.ref u5.objs.size) _
  rw [sz5]
  exact hQ u8 gz8 (up _ _ D.TOz gO5) (S1'.fr up' D.i1z D.l1z g15) (S2'.fr up' D.i2z D.l2z g25) gT8 sz8 fun c o c1 c2 c3 c4 e => up c o c1 (k5 c o c1 c2 c3 c4 e)
theorem two_dry {Q : Fin → Shared → Prop} (hh : A.handled = none) (D : ZipApart z TI TO i1 i2 l1 l2) (S1 : Src i1 l1 G1) (S2 : Src i2 l2 G2) (hd : Dry P w i1 G1 ∨ ∃ x, Out P w i1 x G1 G1' ∧ Dry P w i2 G2)
    (gz : IsZip t.heap z TI TO .none) (gI : IsPair t.heap TI (.ref i1) (.ref i2)) (gO : IsPair t.heap TO a b) (g1 : G1 t.heap) (g2 : G2 t.heap)
    (hE : ∀ u' e, (∀ c o, c ≠ z → c ≠ TO → c ≠ i1 → c ≠ i2 → t.heap.get? c = some o → u'.get? c = some o) → (∃ o, u'.get? e = some o ∧ o.cls = .type "StopIteration") → E (.ref e) { t with heap := u' }) :
    wpAny (model P w) A (Builtin.«zip.__next__» ⟨[.ref z], []⟩) Q E t := by
  show wpAny _ _ (field (.ref z) 2 >>= _) _ _ _
  refine wpAny_bind (wpAny_field gz rfl (x := .bool false) rfl ?_)
  show wpAny _ _ (field (.ref z) 3 >>= _) _ _ _
  refine wpAny_bind (wpAny_field gz rfl (x := .ref TI) rfl ?_)
  refine wpAny_bind (wpAny_seqItems gI rfl ?_)
  show wpAny _ _ (Builtin.SmallTypes.ownedTupleIsFree (.ref z) >>= _) _ _ _
  refine wpAny_bind ?_
  unfold Builtin.SmallTypes.ownedTupleIsFree
  refine wpAny_bind (wpAny_field gz rfl (x := .none) rfl (wpAny_pure ?_))
  simp only [if_true]
  refine wpAny_bind (wpAny_rule ?_)
  refine wpAny_bind (wpAny_field gz rfl (x := .ref TO) rfl ?_)
  refine wpAny_bind (wpAny_setField_rec gz (by simp) fun u1 gz1 s1 => ?_)
  replace gz1 : IsZip u1 z TI TO .ellipsis := gz1
  refine wpAny_bind ?_
  simp only [List.zipIdx_cons, List.zipIdx_nil, List.forIn_cons, List.forIn_nil]
  refine wpAny_bind (wpAny_bind (wpAny_onRaise ?_))
  show wpAny _ _ (Builtin.SmallTypes.nextOf (.ref i1) >>= _) _ _ _
  rcases hd with hd | ⟨x, O1, hd⟩
  · refine wpAny_bind (hd _ _ _ _ hh (S1.fr s1.extBut D.i1z D.l1z g1) fun u2 e s2 he => ?_)
    obtain ⟨oe, ge, ce⟩ := he
    have gz2 : IsZip u2 z TI TO .ellipsis := s2 _ _ D.i1z.symm gz1
    have ne : e ≠ z := fun q => by subst q; rw [gz2] at ge; cases ge; simp at ce
    refine wpAny_setField_rec gz2 (by simp) fun u3 _ s3 => hE u3 e (fun c o c1 _ c3 _ q => s3.extBut _ _ c1 (s2 _ _ c3 (s1.extBut _ _ c1 q))) ⟨oe, s3.extBut _ _ ne ge, ce⟩
  · refine wpAny_bind (O1 _ _ _ _ (S1.fr s1.extBut D.i1z D.l1z g1) fun u2 g12 s2 => wpAny_pure ?_)
    have gO2 : IsPair u2 TO a b := s2.extBut _ _ D.TOi1 (s1.extBut _ _ D.TOz gO)
    refine wpAny_bind (wpAny_seqItems gO2 rfl ?_)
    refine wpAny_bind (wpAny_updateSeq_pair gO2 fun u3 gO3 s3 => ?_)
    refine wpAny_bind (wpAny_letGo (wpAny_pure ?_))
    refine wpAny_bind (wpAny_bind (wpAny_onRaise ?_))
    show wpAny _ _ (Builtin.SmallTypes.nextOf (.ref i2) >>= _) _ _ _
    have g23 : G2 u3 := S2.fr s3.extBut D.TOi2.symm D.l2TO (S2.fr s2.extBut D.i12.symm D.l2i1 (S2.fr s1.extBut D.i2z D.l2z g2))
    refine wpAny_bind (hd _ _ _ _ hh g23 fun u4 e s4 he => ?_)
    obtain ⟨oe, ge, ce⟩ := he
    have gz4 : IsZip u4 z TI TO .ellipsis := s4 _ _ D.i2z.symm (s3.extBut _ _ D.TOz.symm (s2.extBut _ _ D.i1z.symm gz1))
    have ne : e ≠ z := fun q => by subst q; rw [gz4] at ge; cases ge; simp at ce
    refine wpAny_setField_rec gz4 (by simp) fun u5 _ s5 => hE u5 e (fun c o c1 c2 c3 c4 q => s5.extBut _ _ c1 (s4 _ _ c4 (s3.extBut _ _ c2 (s2.extBut _ _ c3 (s1.extBut _ _ c1 q))))) ⟨oe, s5.extBut _ _ ne ge, ce⟩
theorem next_out {Q : Option Value → Shared → Prop} (D : ZipApart z TI TO i1 i2 l1 l2) (S1 : Src i1 l1 G1) (S1' : Src i1 l1 G1') (S2 : Src i2 l2 G2) (S2' : Src i2 l2 G2') (O1 : Out P w i1 x G1 G1') (O2 : Out P w i2 y G2 G2')
    (gz : IsZip t.heap z TI TO .none) (gI : IsPair t.heap TI (.ref i1) (.ref i2)) (gO : IsPair t.heap TO a b) (g1 : G1 t.heap) (g2 : G2 t.heap)
    (hQ : ∀ u', IsZip u' z TI TO (rawInt t.heap.objs.size) → IsPair u' TO x y → G1' u' → G2' u' → IsPair u' t.heap.objs.size x y → u'.objs.size = t.heap.objs.size + 1 →
      (∀ c o, c ≠ z → c ≠ TO → c ≠ i1 → c ≠ i2 → t.heap.get? c = some o → u'.get? c = some o) → Q (some (.ref t.heap.objs.size)) { t with heap := u' }) :
    wpAny (model P w) A (pyNext (.ref z)) Q E t := by
  have ht : t.TypeIs (.ref z) "zip" := ⟨_, gz, rfl⟩
  unfold pyNext
  exact wpAny_bind (wpAny_attempt (wpAny_callSpecial?_slot (name := Str.ofString "__next__") ht F.slot_zip_next (wpAny_call_entry F.slot_zip_next ht F.entry_zip_next
    (two_out D S1 S1' S2 S2' O1 O2 gz gI gO g1 g2 fun u' a1 a2 a3 a4 a5 a6 a7 => wpAny_pure (hQ u' a1 a2 a3 a4 a5 a6 a7)) (F.args_zip_next_1 _))))
theorem next_dry {Q : Option Value → Shared → Prop} (hh : A.handled = none) (D : ZipApart z TI TO i1 i2 l1 l2) (S1 : Src i1 l1 G1) (S2 : Src i2 l2 G2) (hd : Dry P w i1 G1 ∨ ∃ x, Out P w i1 x G1 G1' ∧ Dry P w i2 G2)
    (gz : IsZip t.heap z TI TO .none) (gI : IsPair t.heap TI (.ref i1) (.ref i2)) (gO : IsPair t.heap TO a b) (g1 : G1 t.heap) (g2 : G2 t.heap)
    (hQ : ∀ u', (∀ c o, c ≠ z → c ≠ TO → c ≠ i1 → c ≠ i2 → t.heap.get? c = some o → u'.get? c = some o) → Q none { t with heap := u' }) : wpAny (model P w) A (pyNext (.ref z)) Q E t := by
  have ht : t.TypeIs (.ref z) "zip" := ⟨_, gz, rfl⟩
  unfold pyNext
  refine wpAny_bind (wpAny_attempt (wpAny_callSpecial?_slot (name := Str.ofString "__next__") ht F.slot_zip_next (wpAny_call_entry F.slot_zip_next ht F.entry_zip_next
    (two_dry hh D S1 S2 hd gz gI gO g1 g2 fun u' e k he => ?_) (F.args_zip_next_1 _))))
  obtain ⟨o, ho, hc⟩ := he
  refine wpAny_bind (wpAny_isInstance (T := "StopIteration") (b := true) ⟨o, ho, hc⟩ isSubtype_stop ?_)
  exact wpAny_pure (hQ _ k)
theorem src_t {it l : Addr} {k : Nat} {xs : Array Value} : Src it l fun u => u.IsTupleIter it l k ∧ u.IsTuple l xs := ⟨fun e n m g => ⟨g.1.extBut e n, g.2.extBut e m⟩⟩
theorem src_l {it l : Addr} {k : Nat} {xs : Array Value} : Src it l fun u => u.IsListIter it l k ∧ u.IsList l xs := ⟨fun e n m g => ⟨g.1.extBut e n, g.2.extBut e m⟩⟩
theorem out_t {it l : Addr} {k : Nat} {xs : Array Value} (hx : xs[k]? = some x) (ne : l ≠ it) : Out P w it x (fun u => u.IsTupleIter it l k ∧ u.IsTuple l xs) (fun u => u.IsTupleIter it l (k + 1) ∧ u.IsTuple l xs) :=
  fun A E t Q g hQ => nextOf_tuple_item g.1 g.2 hx fun u' g' s => hQ u' ⟨g', g.2.extBut s.extBut ne⟩ s
theorem out_l {it l : Addr} {k : Nat} {xs : Array Value} (hx : xs[k]? = some x) (ne : l ≠ it) : Out P w it x (fun u => u.IsListIter it l k ∧ u.IsList l xs) (fun u => u.IsListIter it l (k + 1) ∧ u.IsList l xs) :=
  fun A E t Q g hQ => wpAny_nextOf_list_item g.1 g.2 hx fun u' g' s => hQ u' ⟨g', g.2.extBut s.extBut ne⟩ s
theorem dry_t {it l : Addr} {k : Nat} {xs : Array Value} (hx : xs[k]? = none) : Dry P w it (fun u => u.IsTupleIter it l k ∧ u.IsTuple l xs) := fun A E t Q hh g hE => nextOf_tuple_end hh g.1 g.2 hx hE
theorem dry_l {it l : Addr} {k : Nat} {xs : Array Value} (hx : xs[k]? = none) : Dry P w it (fun u => u.IsListIter it l k ∧ u.IsList l xs) := fun A E t Q hh g hE => wpAny_nextOf_list_end hh g.1 g.2 hx hE
end
/-! the call -/
abbrev mH1 (u : Heap) (l1 : Addr) : Heap := u.push { cls := .type "tuple_iterator", data := .fields #[.ref l1, .int 0 0] }
abbrev mH2 (u : Heap) (l1 l2 : Addr) : Heap := (mH1 u l1).push { cls := .type "list_iterator", data := .fields #[.ref l2, .int 0 0] }
abbrev mH3 (u : Heap) (l1 l2 : Addr) : Heap := (mH2 u l1 l2).push { cls := .type "tuple", data := .seq #[.ref u.objs.size, .ref (mH1 u l1).objs.size] }
abbrev mH4 (u : Heap) (l1 l2 : Addr) : Heap := (mH3 u l1 l2).push { cls := .type "tuple", data := .seq #[.none, .none] }
abbrev mH5 (u : Heap) (l1 l2 : Addr) : Heap := (mH4 u l1 l2).push { cls := .type "zip", data := .fields #[.none, .bool false, .bool false, .ref (mH2 u l1 l2).objs.size, .ref (mH3 u l1 l2).objs.size] }
theorem meets_mixed (l1 l2 : Addr) (xs ys : Array Value) :
    Meets (Builtin.«zip.__new__» ⟨[.type "zip", .ref l1, .ref l2], []⟩) (fun _ R t => t.heap.IsTuple l1 xs ∧ t.heap.IsList l2 ys ∧ R (.ok (.ret (.ref (mH4 t.heap l1 l2).objs.size))) { t with heap := mH5 t.heap l1 l2 }) :=
  .of_wp fun prog w A R t q => by
    obtain ⟨hp, g, d, tk, os⟩ := t; obtain ⟨q1, q2, q⟩ := q
    have sb := sub_zip
    have b1 : Heap.IsTuple (Shared.heap ⟨hp, g, d, tk, os⟩) l1 xs := q1
    have b2 : Heap.IsList (Shared.heap ⟨hp.push { cls := .type "tuple_iterator", data := .fields #[.ref l1, .int 0 0] }, g, d, tk, os⟩) l2 ys := Heap.IsList.push q2 _
    wp_walk using wpAny_pyIter_tuple b1, wpAny_pyIter_list b2
    exact ⟨_, rfl, q⟩
section
variable {P : Program} {w : World} {A : Around} {E : Value → Shared → Prop} {t : Shared}
theorem call_mixed {l1 l2 : Addr} {xs ys : Array Value} {Q : Value → Shared → Prop} (q1 : t.heap.IsTuple l1 xs) (q2 : t.heap.IsList l2 ys)
    (q : ∀ u', IsZip u' (t.heap.objs.size + 4) (t.heap.objs.size + 2) (t.heap.objs.size + 3) .none → IsPair u' (t.heap.objs.size + 2) (.ref t.heap.objs.size) (.ref (t.heap.objs.size + 1)) →
      IsPair u' (t.heap.objs.size + 3) .none .none → u'.IsTupleIter t.heap.objs.size l1 0 → u'.IsListIter (t.heap.objs.size + 1) l2 0 → (∀ c o, t.heap.get? c = some o → u'.get? c = some o) → Q (.ref (t.heap.objs.size + 4)) { t with heap := u' }) :
    wpAny (model P w) A (call (.type "zip") [.ref l1, .ref l2]) Q E t := by
  refine callType_new F.called_zip (by decide) (F.typeCall_zip_2 _ _) (F.newCall_zip_2 _ _) (fun obj => F.args_object_init_3 obj _ _) F.entry_zip_new (meets_mixed l1 l2 xs ys) ⟨q1, q2, ?_⟩
  have n1 : (mH1 t.heap l1).objs.size = t.heap.objs.size + 1 := Heap.size_push ..
  have n2 : (mH2 t.heap l1 l2).objs.size = t.heap.objs.size + 2 := by rw [Heap.size_push, n1]
  have n3 : (mH3 t.heap l1 l2).objs.size = t.heap.objs.size + 3 := by rw [Heap.size_push, n2]
  have n4 : (mH4 t.heap l1 l2).objs.size = t.heap.objs.size + 4 := by rw [Heap.size_push, n3]
  have up : ∀ {u : Heap} {o o' : Obj} {c : Addr}, u.get? c = some o → (u.push o').get? c = some o := fun e => Heap.get?_push_of_some _ e
  have e5 : (mH5 t.heap l1 l2).get? (mH4 t.heap l1 l2).objs.size = some _ := Heap.get?_push_size _ rfl
  have e4 : (mH5 t.heap l1 l2).get? (mH3 t.heap l1 l2).objs.size = some _ := up (Heap.get?_push_size _ rfl)
  have e3 : (mH5 t.heap l1 l2).get? (mH2 t.heap l1 l2).objs.size = some _ := up (up (Heap.get?_push_size _ rfl))
  have e2 : (mH5 t.heap l1 l2).get? (mH1 t.heap l1).objs.size = some _ := up (up (up (Heap.get?_push_size _ rfl)))
  have e1 : (mH5 t.heap l1 l2).get? t.heap.objs.size = some _ := up (up (up (up (Heap.get?_push_size _ rfl))))
  show _ ∧ _
  rw [n2, n3, n4] at e5
  rw [n1, n2] at e3
  rw [n3] at e4
  rw [n1] at e2
  rw [n4]
  exact ⟨⟨_, e5, rfl⟩, q _ e5 e3 e4 ⟨_, e1, rfl, rfl⟩ ⟨_, e2, rfl, rfl⟩ fun c o e => up (up (up (up (up e))))⟩
end
/-! as a turn -/
def ItM (K : PySem.W.Frag) (a b : Addr) : It :=
  ⟨fun i H => ∃ (xs ys : List V) (x y : V), SqT K H a xs ∧ SqL K H b ys ∧ xs[i]? = some x ∧ ys[i]? = some y,
    fun i H v H' => ∃ T x y, v = .ref T ∧ H T = none ∧ H' = upd H T (.tup [x, y]) ∧ (∀ xs, SqT K H a xs → xs[i]? = some x) ∧ ∀ ys, SqL K H b ys → ys[i]? = some y,
    fun i H => ∃ xs ys : List V, SqT K H a xs ∧ SqL K H b ys ∧ (xs.length ≤ i ∨ ys.length ≤ i)⟩
theorem turn_mixed {P : Program} {w : World} {K : PySem.W.Frag} {elts : List Expr} {kk : Nat} {tpos : Pos} {a b z TI TO i1 i2 : Addr} (D : ZipApart z TI TO i1 i2 a b) :
    Turn P w K (.Tuple elts kk tpos) (ItM K a b) [z, TI, TO, i1, i2] z (fun i u => IsZip u z TI TO .none ∧ IsPair u TI (.ref i1) (.ref i2) ∧ (∃ x y, IsPair u TO x y) ∧ u.IsTupleIter i1 a i ∧ u.IsListIter i2 b i) where
  mem := List.mem_cons_self
  obj := fun i u st c hc => by
    obtain ⟨gz, gI, ⟨x, y, gO⟩, ⟨o1, e1, _, d1⟩, ⟨o2, e2, _, d2⟩⟩ := st
    have cs : c = z ∨ c = TI ∨ c = TO ∨ c = i1 ∨ c = i2 := by simpa using hc
    rcases cs with rfl | rfl | rfl | rfl | rfl
    · exact ⟨_, gz, fun v q => nomatch q⟩
    · exact ⟨_, gI, fun v q => nomatch q⟩
    · exact ⟨_, gO, fun v q => nomatch q⟩
    · exact ⟨o1, e1, fun v q => by rw [d1] at q; cases q⟩
    · exact ⟨o2, e2, fun v q => by rw [d2] at q; cases q⟩
  keep := fun i u u' st k => by
    obtain ⟨gz, gI, ⟨x, y, gO⟩, g1, g2⟩ := st
    exact ⟨k z (by simp) _ gz, k TI (by simp) _ gI, ⟨x, y, k TO (by simp) _ gO⟩, g1.at fun o q => k i1 (by simp) o q, g2.at fun o q => k i2 (by simp) o q⟩
  item := by
    intro X eP ew eK hc i pins t σ H E I free st hg
    subst eP ew eK
    obtain ⟨gz, gI, ⟨x0, y0, gO⟩, g1, g2⟩ := st
    obtain ⟨xs, ys, x, y, qx, qy, hx, hy⟩ := hg
    obtain ⟨its, rv, p, _⟩ := I.tuple qx
    obtain ⟨its2, rv2, p2, _⟩ := I.list qy
    obtain ⟨u, hu, ru⟩ := rv.get hx
    obtain ⟨u2, hu2, ru2⟩ := rv2.get hy
    have ltz : z < t.heap.objs.size := Heap.lt_size gz
    have hu' : its.toArray[i]? = some u := by simpa using hu
    have hu2' : its2.toArray[i]? = some u2 := by simpa using hu2
    refine next_out D (src_t (k := i) (xs := its.toArray)) (src_t (k := i + 1)) (src_l (k := i) (xs := its2.toArray)) (src_l (k := i + 1)) (out_t hu' D.l1i1) (out_l hu2' D.l2i2) gz gI gO ⟨g1, p⟩ ⟨g2, p2.isList⟩ fun h' z' TO' g1' g2' hT hsz hk => ?_
    refine ⟨_, rfl, wpAny_letOwnedTupleGo_zip (s := { t with heap := h' }) z' fun h2 z2 sb => ?_⟩
    have hT2 : h2.get? t.heap.objs.size = some { cls := .type "tuple", data := .seq #[u, u2] } := (sb.2 _ (Nat.ne_of_gt ltz)).trans hT
    have new : ObjOk X.prog X.w (upd H t.heap.objs.size (.tup [x, y])) h2 t.heap.objs.size (.tup [x, y]) := ⟨show 2 ≤ sizeLine by decide, [u, u2], .cons ru (.cons ru2 .nil), ⟨_, hT2, rfl, _, rfl⟩⟩
    have out : ∀ {c : Addr}, c ∉ [z, TI, TO, i1, i2] → c ≠ z ∧ c ≠ TO ∧ c ≠ i1 ∧ c ≠ i2 := fun n => ⟨fun q => n (by simp [q]), fun q => n (by simp [q]), fun q => n (by simp [q]), fun q => n (by simp [q])⟩
    have I1 : Inv X pins σ (upd H t.heap.objs.size (.tup [x, y])) { t with heap := h2 } :=
      I.turnedNew (t' := t.toks) (ch := [z, TI, TO, i1, i2]) (fun c o n q => let ⟨n1, n2, n3, n4⟩ := out n; (sb.2 c n1).trans (hk c o n1 n2 n3 n4 q)) free (Nat.le_refl _) new
    refine ⟨.ref t.heap.objs.size, _, I1, rfl, ⟨_, x, y, rfl, I.hok.fresh (Nat.le_refl _), rfl, fun l hl => by rw [I.tuple_inj hl qx]; exact hx, fun l hl => by rw [I.list_inj hl qy]; exact hy⟩, ⟨z2, ?_, ⟨u, u2, ?_⟩, ?_, ?_⟩, fun c hcm => ?_⟩
    · exact (sb.2 _ D.TIz).trans (hk _ _ D.TIz D.TITO D.TIi1 D.TIi2 gI)
    · exact (sb.2 _ D.TOz).trans TO'
    · exact g1'.1.at fun o q => (sb.2 _ D.i1z).trans q
    · exact g2'.1.at fun o q => (sb.2 _ D.i2z).trans q
    · have cs : c = z ∨ c = TI ∨ c = TO ∨ c = i1 ∨ c = i2 := by simpa using hcm
      have lt : c < t.heap.objs.size := by
        obtain ⟨_, e1, _⟩ := g1
        obtain ⟨_, e2, _⟩ := g2
        rcases cs with rfl | rfl | rfl | rfl | rfl
        · exact ltz
        · exact Heap.lt_size gI
        · exact Heap.lt_size gO
        · exact Heap.lt_size e1
        · exact Heap.lt_size e2
      rw [upd_ne (Nat.ne_of_lt lt)]
      exact (free c hcm).1
  done := by
    intro X eP ew eK hc i pins t σ H E I free st hg
    subst eP ew eK
    obtain ⟨gz, gI, ⟨x0, y0, gO⟩, g1, g2⟩ := st
    obtain ⟨xs, ys, qx, qy, hend⟩ := hg
    obtain ⟨its, rv, p, _⟩ := I.tuple qx
    obtain ⟨its2, rv2, p2, _⟩ := I.list qy
    have m1 := rv.length
    have m2 := rv2.length
    have hd : Dry X.prog X.w i1 (fun u => u.IsTupleIter i1 a i ∧ u.IsTuple a its.toArray) ∨ ∃ x, Out X.prog X.w i1 x (fun u => u.IsTupleIter i1 a i ∧ u.IsTuple a its.toArray) (fun u => u.IsTupleIter i1 a (i + 1) ∧ u.IsTuple a its.toArray) ∧ Dry X.prog X.w i2 (fun u => u.IsListIter i2 b i ∧ u.IsList b its2.toArray) := by
      cases e : its.toArray[i]? with
      | none => exact .inl (dry_t e)
      | some x =>
        have n : its2.toArray[i]? = none := by
          have : i < its.length := by simpa using (Array.getElem?_eq_some_iff.mp e).1
          simp
          omega
        exact .inr ⟨x, out_t e D.l1i1, dry_l n⟩
    refine next_dry (I.ok.hd hc) D src_t src_l hd gz gI gO ⟨g1, p⟩ ⟨g2, p2.isList⟩ fun u' k => ⟨rfl, I.turnedL (t' := t.toks) (ch := [z, TI, TO, i1, i2]) (fun c o n q => k c o (fun e => n (by simp [e])) (fun e => n (by simp [e])) (fun e => n (by simp [e])) (fun e => n (by simp [e])) q) free⟩
  self := fun A i t Q E st q => wpAny_pyIter_zip st.1 q
def iMixed (K : PySem.W.Frag) (ta : TA) : TI := fun σ H R => ta σ H fun vs H1 => ∃ a b xs ys, vs = [.ref a, .ref b] ∧ SqT K H1 a xs ∧ SqL K H1 b ys ∧ R (ItM K a b) H1
theorem pi_mixed {X : Cx} {e e2 : Expr} {ta : TA} {p pos tpos : Pos} {elts : List Expr} {kk : Nat} (hg : Gl X "zip") (hm : X.mg "zip" = none) (ha : PA X [e, e2] ta)
    (hs : starEach [e, e2] X.env = (false, eval e X.env) :: starEach [e2] X.env := by rfl) (hpl : (backTo pos (starEach [e2] X.env)).any (·.1) = false := by rfl) : PI X (.Tuple elts kk tpos) (.Call (.Name "zip" p) [e, e2] [] pos) (iMixed X.K ta) := by
  refine ⟨fun pins t σ H R I q => ?_⟩
  refine Call_ (ld_blt I hg hm PyProof.Rows.boot_zip (PyProof.Rows.callWith_type1 (thn (ha.run pos pins t σ H _ I q) fun us s1 ⟨vs, H1, I1, r1, q1⟩ => ?_) hs hpl))
  obtain ⟨a, b, xs, ys, rfl, qx, qy, q⟩ := q1
  cases r1 with
  | cons r rr =>
    cases rr with
    | cons r' rr =>
      cases rr
      cases r
      cases r'
      have new : ∀ c, c ∈ [s1.heap.objs.size + 4, s1.heap.objs.size + 2, s1.heap.objs.size + 3, s1.heap.objs.size, s1.heap.objs.size + 1] → FpOk X pins H1 c := fun c hc => by
        have le : s1.heap.objs.size ≤ c := by
          simp only [List.mem_cons, List.not_mem_nil, or_false] at hc
          rcases hc with e | e | e | e | e <;> rw [e] <;> first | exact Nat.le_refl _ | exact Nat.le_add_right _ _
        exact I1.fpOk le (I1.hok.fresh le)
      obtain ⟨its, rv, p1, _⟩ := I1.tuple qx
      obtain ⟨its2, rv2, p2, _⟩ := I1.list qy
      obtain ⟨o1, ho1, _⟩ := id p1
      refine call_mixed (show s1.heap.IsTuple a its.toArray from p1) p2.isList fun u' gz gI gO g1 g2 k => wpAny_pyIter_zip gz ?_
      exact ⟨s1.heap.objs.size + 4, [s1.heap.objs.size + 4, s1.heap.objs.size + 2, s1.heap.objs.size + 3, s1.heap.objs.size, s1.heap.objs.size + 1], _, _, H1, rfl, I1.kept (t' := s1.toks) k, turn_mixed (PySem.W.ktu_apart s1.heap.objs.size a b (Heap.lt_size ho1) p2.lt), ⟨gz, gI, ⟨_, _, gO⟩, g1, g2⟩, new, q⟩
theorem walk_mixed {K : PySem.W.Frag} {a b : Addr} {xs ys : List V} {n : Nat} (hn : n = min xs.length ys.length) : Walk (ItM K a b) n (fun H => SqT K H a xs ∧ SqL K H b ys) (YPair (fun i => xs[i]?) (fun i => ys[i]?)) := by
  subst hn
  refine ⟨fun i _ hi q => ⟨xs, ys, xs[i]'(by omega), ys[i]'(by omega), q.1, q.2, List.getElem?_eq_getElem _, List.getElem?_eq_getElem _⟩, fun _ q => ⟨xs, ys, q.1, q.2, by omega⟩, fun i H v H' _ q y => ?_⟩
  obtain ⟨T, x, z, k1, k2, k3, k4, k5⟩ := y
  exact ⟨T, x, z, k1, k2, k3, k4 xs q.1, k5 ys q.2⟩
end RZ2
namespace VL
open PySem L2 RZ2
def rZipM (ds : List D) (ρ : List D) : R (List D) := match ds with
  | [.tup xs, .lst ys] => .ok ((xs.zip ys).map fun p => .tup [p.1, p.2]) ρ
  | _ => .bad
def eZipM (ψ : EM (List D)) : EM (List D) := fun ρ => (ψ ρ).bind rZipM
@[simp] theorem eZipM_r (ψ : EM (List D)) (ρ : List D) : eZipM ψ ρ = (ψ ρ).bind rZipM := (rfl)
@[simp] theorem rZipM_t (xs ys ρ : List D) : rZipM [.tup xs, .lst ys] ρ = .ok ((xs.zip ys).map fun p => .tup [p.1, p.2]) ρ := (rfl)
section
variable {X : Cx} {Z : Zx} {Γ Γ' : Gx} {a b : Expr} {ψ : EM (List D)} {pos p tpos : Pos} {elts : List Expr} {kk : Nat} {tb : Ty}
theorem si_zipM (hK : Z.K = X.K) (hg : Gl X "zip") (hm : X.mg "zip" = none) (ha : SA X Z Γ [a, b] ψ [.v .im, .v (.L tb)])
    (hs : starEach [a, b] X.env = (false, eval a X.env) :: starEach [b] X.env := by rfl) (hpl : (backTo pos (starEach [b] X.env)).any (·.1) = false := by rfl) : SI X Z Γ (.Tuple elts kk tpos) (.Call (.Name "zip" p) [a, b] [] pos) (eZipM ψ) (.T [.im, tb]) := PI.imp (pi_mixed hg hm ha hs hpl) fun σ H Rr ⟨ρ, U, R, q⟩ =>
  ⟨ρ, U, R, AftI.bind q fun ds ρ1 vs H1 e1 R1 p1 q => by
    obtain ⟨d, r, v, s, rfl, rfl, ⟨hd, ht⟩, d2, r2, v2, s2, rfl, rfl, ⟨hd2, ds2, rfl, ht2⟩, rfl, rfl⟩ := p1
    cases d with
    | tup ds =>
      obtain ⟨a, xs, rfl, sa, fa⟩ := hd
      obtain ⟨b, ys, rfl, sb, fb⟩ := hd2
      refine ⟨a, b, xs, ys, rfl, hK ▸ sa.sq, hK ▸ sb.sq, q _ H1 .refl R1 ?_⟩
      refine hK ▸ it_pair (walk_mixed (K := Z.K) (a := a) (b := b) rfl) (by rw [List.length_map, List.length_zip, fa.length, fb.length]) (fun H' e => ⟨(sa.ext e).sq, (sb.ext (fun x z => .inl z) e).sq⟩) fun i hi => ?_
      have hi1 : i < ds.length := by rw [fa.length]; omega
      have hi2 : i < ds2.length := by rw [fb.length]; omega
      refine ⟨ds[i], ds2[i], ?_, immL_mem ht (List.getElem_mem hi1), ht2 _ (List.getElem_mem hi2), fun H' W' vx vy e hw h1 h2 => ⟨?_, ?_⟩⟩
      · rw [List.getElem?_map, List.getElem?_zip_eq_some (z := (ds[i], ds2[i])) |>.mpr ⟨List.getElem?_eq_getElem hi1, List.getElem?_eq_getElem hi2⟩]
        rfl
      · obtain ⟨d, hd, fd⟩ := fa.getV h1
        rw [List.getElem?_eq_getElem hi1] at hd
        rw [Option.some.inj hd]
        exact fd.ext2 (fun x z => .inl z) e hw
      · obtain ⟨d, hd, fd⟩ := fb.getV h2
        rw [List.getElem?_eq_getElem hi2] at hd
        rw [Option.some.inj hd]
        exact fd.ext2 (fun x z => .inl z) e hw
    | _ => exact q.elim⟩
end
end VL
/-! VL44: extend, xs[::-1], the items of a new dict. -/
namespace VL
open PySem PySem.Spec PyProof.Rows L2
theorem ext_lw (l b : Addr) (us ws : Array Value) (n n2 : Nat) (dd : Option Addr) (sl : Array (Option Value)) (k0 : ¬(!us.isEmpty && Builtin.List.listTooLong (us.size + ws.size)) = true) (k1 : us.size ≤ sizeLine) (k2 : us.size + ws.size ≤ sizeLine + 1) :
    Meets (Builtin.«list.extend» ⟨[.ref l, .ref b], []⟩) (fun _ R t => t.heap.get? l = some { cls := .type "list", dict := none, data := .seq us n, slots := #[] } ∧ t.heap.get? b = some { cls := .type "list", dict := dd, data := .seq ws n2, slots := sl } ∧ R (.ok (.ret Value.none)) { t with heap := t.heap.update l (Obj.mapSeq fun x => x ++ ws), toks := t.toks }) :=
  .of_wp fun prog w A R t q => by
    obtain ⟨hp, g, d, tk, os⟩ := t; obtain ⟨gl, gb, q⟩ := q; have f1 := AutoSeq1.idx_int; have f2 := AutoSeq1.sub_tuple_tuple; have f3 := AutoSeq1.sub_list_list; have f4 := AutoSeq1.sub_tuple_list; have f5 := AutoSeq1.sub_list_tuple
    have big : (us ++ ws).size ≤ sizeLine + 1 := by rw [Array.size_append]; exact k2
    wp_walk using (wpAny_updateSeq gl rfl (hz := k1) (_hz' := big)), wpAny_loadPart' gl, wpAny_loadPart' gb; exact ⟨_, rfl, q⟩
theorem ext_tw (l b : Addr) (us ws : Array Value) (n n2 : Nat) (dd : Option Addr) (sl : Array (Option Value)) (k0 : ¬(!us.isEmpty && Builtin.List.listTooLong (us.size + ws.size)) = true) (k1 : us.size ≤ sizeLine) (k2 : us.size + ws.size ≤ sizeLine + 1) :
    Meets (Builtin.«list.extend» ⟨[.ref l, .ref b], []⟩) (fun _ R t => t.heap.get? l = some { cls := .type "list", dict := none, data := .seq us n, slots := #[] } ∧ t.heap.get? b = some { cls := .type "tuple", dict := dd, data := .seq ws n2, slots := sl } ∧ R (.ok (.ret Value.none)) { t with heap := t.heap.update l (Obj.mapSeq fun x => x ++ ws), toks := t.toks }) :=
  .of_wp fun prog w A R t q => by
    obtain ⟨hp, g, d, tk, os⟩ := t; obtain ⟨gl, gb, q⟩ := q; have f1 := AutoSeq1.idx_int; have f2 := AutoSeq1.sub_tuple_tuple; have f3 := AutoSeq1.sub_list_list; have f4 := AutoSeq1.sub_tuple_list; have f5 := AutoSeq1.sub_list_tuple
    have big : (us ++ ws).size ≤ sizeLine + 1 := by rw [Array.size_append]; exact k2
    wp_walk using (wpAny_updateSeq gl rfl (hz := k1) (_hz' := big)), wpAny_loadPart' gl, wpAny_loadPart' gb; exact ⟨_, rfl, q⟩
/-- l.extend(b), b any list or tuple that can be read -/
def rExtA (K : PySem.W.Frag) : V → List V → Hp → VK → Prop := fun x vs H Q => ∃ l b xs zs, x = .ref l ∧ vs = [.ref b] ∧ H l = some (.lst xs) ∧ (SqL K H b zs ∨ SqT K H b zs) ∧ xs.length + zs.length ≤ sizeLine ∧ Q .non (upd H l (.lst (xs ++ zs)))
theorem mt_extA {X : Cx} : MtM X "list.extend" (rExtA X.K) := by
  intro pins t σ H x vs v us Q I rx rv q
  obtain ⟨l, b, xs, zs, rfl, rfl, gl, gb, hz, q⟩ := q
  cases rx
  obtain ⟨u, rfl, ru⟩ := rv.one
  cases ru
  obtain ⟨z, its, n, r, hl, e⟩ := I.lstM gl
  have main : ∀ (its2 : List Value), Vals zs its2 → (∀ (k0 : ¬(!its.toArray.isEmpty && Builtin.List.listTooLong (its.toArray.size + its2.toArray.size)) = true) (k1 : its.toArray.size ≤ sizeLine) (k2 : its.toArray.size + its2.toArray.size ≤ sizeLine + 1),
      wpAny (model X.prog X.w) X.A (call (.builtin "list.extend") [.ref l, .ref b]) (fun u' t' => u' = Value.none ∧ t' = { t with heap := t.heap.update l (Obj.mapSeq fun x => x ++ its2.toArray), toks := t.toks }) X.xe t) →
      wpAny (model X.prog X.w) X.A (call (.builtin "list.extend") [.ref l, .ref b]) (EP X pins σ Q) X.xe t := by
    intro its2 r2 k
    have l2 := r2.length
    have sz : its.toArray.size + its2.toArray.size ≤ sizeLine := by rw [List.size_toArray, List.size_toArray]; omega
    refine thn (k (by rw [notLongL sz, Bool.and_false]; exact Bool.false_ne_true) (by rw [List.size_toArray]; omega) (by omega)) fun u' t' ⟨e1, e2⟩ => ?_
    subst e1 e2
    refine ⟨.non, _, I.lset (its' := its ++ its2) gl e (by simp) (r.append r2) ?_, rfl, q⟩
    rw [List.length_append]
    omega
  rcases gb with gb | gb
  · obtain ⟨its2, r2, p2, _⟩ := I.list gb
    obtain ⟨⟨c2, d2, k2, s2⟩, g2, e2, n2, e3⟩ := p2.isList
    simp only at e2 e3
    subst e2 e3
    exact main its2 r2 fun k0 k1 k3 => call_meets F.slot_list_extend ⟨_, e, rfl⟩ F.entry_list_extend (F.args_list_extend_2 _ _) (ext_lw l b _ _ n n2 d2 s2 k0 k1 k3) ⟨e, g2, rfl, rfl⟩
  · obtain ⟨its2, r2, p2, _⟩ := I.tuple gb
    obtain ⟨⟨c2, d2, k2, s2⟩, g2, e2, n2, e3⟩ := p2
    simp only at e2 e3
    subst e2 e3
    exact main its2 r2 fun k0 k1 k3 => call_meets F.slot_list_extend ⟨_, e, rfl⟩ F.entry_list_extend (F.args_list_extend_2 _ _) (ext_tw l b _ _ n n2 d2 s2 k0 k1 k3) ⟨e, g2, rfl, rfl⟩
def fExt (ds as : List D) : Option (D × List D) := match as with
  | [.lst es] => if ds.length + es.length ≤ sizeLine then some (.non, ds ++ es) else none
  | [.tup es] => if ds.length + es.length ≤ sizeLine then some (.non, ds ++ es) else none
  | _ => none
theorem fExt_l {ds es : List D} (h : ds.length + es.length ≤ sizeLine) : fExt ds [.lst es] = some (.non, ds ++ es) := if_pos h
theorem fExt_t {ds es : List D} (h : ds.length + es.length ≤ sizeLine) : fExt ds [.tup es] = some (.non, ds ++ es) := if_pos h
/-- what may be handed to extend -/
def extTy : Ty → Ty → Bool
  | .L u, ta => u.le ta
  | .im, ta => Ty.le .im ta
  | _, _ => false
theorem ext_s {K : PySem.W.Frag} {u ta : Ty} (h : extTy u ta = true) : MtS K (rExtA K) fExt ta [u] .im := fun H W a ds as xs vs d ds' hH f fa hd hl hf => by
  obtain ⟨x, r, rfl, hx, hr⟩ := hl
  have hr : r = [] := hr
  subst hr
  obtain ⟨v, s, rfl, fv, fs⟩ := fa
  have fs : s = [] := fs
  subst fs
  have mem : ∀ es : List D, (x = .lst es ∨ x = .tup es) → ∀ y ∈ es, ta.has y := fun es hes y hy => by
    cases u with
    | L u =>
      obtain ⟨es', e, he⟩ := hx
      rcases hes with e' | e' <;> rw [e'] at e <;> cases e
      exact Ty.le_has h (he y hy)
    | im =>
      rcases hes with e' | e' <;> rw [e'] at hx
      · cases hx
      · exact Ty.le_has (t := .im) h (immL_mem hx hy)
    | any => cases h
    | M _ => cases h
    | T _ => cases h
  unfold fExt at hf
  split at hf
  · rename_i es e1
    cases e1
    split at hf
    · rename_i hlen
      cases hf
      obtain ⟨b, zs, rfl, sb, fb⟩ := fv
      refine ⟨xs ++ zs, .non, f.append fb, rfl, fun y hy => ?_, rfl, fun Q q => ⟨a, b, xs, zs, rfl, rfl, hH, .inl sb.sq, by rw [← f.length, ← fb.length]; exact hlen, q⟩⟩
      rcases List.mem_append.mp hy with z | z
      · exact hd y z
      · exact mem es (.inl rfl) y z
    · cases hf
  · rename_i es e1
    cases e1
    split at hf
    · rename_i hlen
      cases hf
      obtain ⟨b, zs, rfl, sb, fb⟩ := fv
      refine ⟨xs ++ zs, .non, f.append fb, rfl, fun y hy => ?_, rfl, fun Q q => ⟨a, b, xs, zs, rfl, rfl, hH, .inr sb.sq, by rw [← f.length, ← fb.length]; exact hlen, q⟩⟩
      rcases List.mem_append.mp hy with z | z
      · exact hd y z
      · exact mem es (.inr rfl) y z
    · cases hf
  · cases hf
section
variable {X : Cx} {Z : Zx} {Γ : Gx} {o e : Expr} {φ : EM D} {t u ta : Ty} {pos apos cpos : Pos}
theorem se_ext {i : Nat} (hK : Z.K = X.K) (ho : SO X Z Γ o eSl (.s i)) (he : SE X Z Γ e φ u) (hi : Γ[i]? = some (.own (.L ta)) := by rfl) (hu : extTy u ta = true := by rfl)
    (hbase : attributeBase o "extend" X.env (eval o X.env) = eval o X.env := by rfl)
    (hfew : ((backTo cpos (starEach [e] X.env)).all (fun z => !z.1) && (backToKw cpos (keywordEach [] X.env)).all (fun z => z.1.isSome) && decide ([e].length + ([] : List Keyword).length + (if ([] : List Keyword).isEmpty then 0 else 1) < 30)) = true := by rfl)
    (hline : (apos.endLine == cpos.line) = true := by rfl) (hs : starEach [e] X.env = (false, eval e X.env) :: starEach [] X.env := by rfl) :
    SE X Z Γ (.Call (.Attribute o "extend" apos) [e] [] cpos) (eMeth fExt i (eCons φ eNil)) .im :=
  se_meth hK F.plainAttrs_list F.slot_list_extend F.type_list_extend (show MtR X "list.extend" (rExtA Z.K) from hK ▸ mt_extA) (ext_s hu) ho (sa_cons he sa_nil hs) hi rfl hbase hfew hline hs rfl
/-! the other way about -/
def eRevL (k : Od) (φ : EM D) : EM D := fun ρ => (φ ρ).bind fun x ρ => match k.res x ρ with
  | .lst ds => .ok (.lst ds.reverse) ρ
  | _ => .bad
@[simp] theorem eRevL_r (k : Od) (φ : EM D) (ρ : List D) : eRevL k φ ρ = (φ ρ).bind fun x ρ => match k.res x ρ with
  | .lst ds => .ok (.lst ds.reverse) ρ
  | _ => .bad := (rfl)
theorem sn_revL {k : Od} {j : Nat} {p1 p2 p3 : Pos} (hK : Z.K = X.K) (he : SO X Z Γ e φ k) (hk : k.ok Γ (.L t) := by rfl) : SN X Z Γ (.Subscript e (.Slice none none (some (.UnaryOp .USub (.Constant (.int 1) j p1) p2)) p3) pos) (eRevL k φ) (.L t) := PE.imp (pe_revL he) fun σ H Q ⟨ρ, U, R, q⟩ =>
  ⟨ρ, U, R, AftN.bind q fun x ρ1 v H1 e1 R1 p1 q => by
    obtain ⟨vw, ty⟩ := Od.vw hk R1 p1
    obtain ⟨ds, hds, hd⟩ := ty
    rw [hds] at vw
    obtain ⟨a, xs, rfl, sa, fa⟩ := vw.lst
    have q : AftN Z Γ (.L t) σ H1 U Q (match k.res x ρ1 with
      | .lst ds => VL.R.ok (.lst ds.reverse) ρ1
      | _ => .bad) := q
    rw [hds] at q
    exact ⟨a, xs, rfl, hK ▸ sa, fun p hp => q p _ (Ext.new hp) hp (R1.new hp) (own_new R1 hp fa.rev) ⟨_, rfl, fun d hd' => hd d (List.mem_reverse.mp hd')⟩⟩⟩
/-! the items of a new dict -/
/-- what e gives is locked from then on -/
theorem pe_shut {te : TE} (h : PE X e te) : PE X e (fun σ H Q => te σ H fun x H1 => ∃ a u, x = .ref a ∧ H1 a = some u ∧ Mut (some u) ∧ ∀ od, Q x (upd H1 a (.frz od u))) := by
  refine ⟨fun pins s σ H Q I q => thn (h.run pins s σ H _ I q) fun v s1 ⟨x, H1, I1, r, a, u, ex, ha, mu, q⟩ => ?_⟩
  obtain ⟨od, I2⟩ := I1.lock ha mu
  exact ⟨x, _, I2, r, q od⟩
def rItN (f : List (Key × D) → List D) (d : D) (ρ : List D) : R (List D) := match d with
  | .dic kvs => .ok (f kvs) ρ
  | _ => .bad
def eItN (f : List (Key × D) → List D) (φ : EM D) : EM (List D) := fun ρ => (φ ρ).bind (rItN f)
@[simp] theorem eItN_r (f : List (Key × D) → List D) (φ : EM D) (ρ : List D) : eItN f φ ρ = (φ ρ).bind (rItN f) := (rfl)
@[simp] theorem rItN_d (f : List (Key × D) → List D) (kvs : List (Key × D)) (ρ : List D) : rItN f (.dic kvs) ρ = .ok (f kvs) ρ := (rfl)
theorem si_itN {tg it : Expr} {J : Addr → Obj → List (Key × V) → It} {f : List (Key × D) → List D} (hi : ∀ te : TE, PE X e te → PI X tg it (iDic J te)) (hJ : ItD Z J f t u) (he : SN X Z Γ e φ (.M t)) : SI X Z Γ tg it (eItN f φ) u := by
  refine PI.imp (hi _ (pe_shut he)) fun σ H Rr ⟨ρ, U, R, q⟩ => ⟨ρ, U, R, ?_⟩
  have q : AftI Z Γ u σ H U Rr ((φ ρ).bind (rItN f)) := q
  cases hφ : φ ρ with
  | bad => rw [hφ] at q; exact q.elim
  | exc c p ρ' =>
    rw [hφ] at q
    exact fun cls od H' e1 R1 xr => q cls od H' e1 R1 xr
  | ok d ρ' =>
    rw [hφ] at q
    intro p H' e1 hp R1 o1 td
    obtain ⟨kvs, rfl, hall⟩ := td
    rcases o1 with ⟨ds, xs, z1, _⟩ | ⟨kvs', ks, z1, ha, fm⟩
    · cases z1
    · cases z1
      have nw : ¬ Wr Γ σ p := R1.notWr
      have sub : ∀ x, U x → UN U p x := fun x z => .inl z
      have nwa : ¬ Wa Γ σ U p := fun z => z.elim nw fun z => R.trk p z hp
      refine ⟨p, .dK ks, rfl, ha, trivial, fun od => ⟨p, od, ks, rfl, upd_same, ?_⟩⟩
      have e2 : Ext H (Wr Γ σ) (upd H' p (.frz od (.dK ks))) := by
        refine ⟨fun a o e n => ?_, fun a xs e => ?_, fun a e => ?_⟩
        · have ne : a ≠ p := fun z => by rw [z, hp] at e; cases e
          rw [upd_ne ne]; exact e1.keep a o e n
        · have ne : a ≠ p := fun z => by rw [z, hp] at e; cases e
          rw [upd_ne ne]; exact e1.tup a xs e
        · have ne : a ≠ p := fun z => by rw [z, hp] at e; exact e rfl
          rw [upd_ne ne]; exact e1.there a e
      have fm' : FzM Z.K H' (Wa Γ σ U) kvs ks := FzM.mono (fun x z => .inl (wa_sub sub x z)) fm
      exact q _ _ e2 ((R1.lessU sub).lock ha nw) (hJ Γ σ U _ p od kvs ks upd_same nwa (fm'.sim (HSim.lock ha)) hall)
theorem si_itemsN {elts : List Expr} {kk : Nat} {tpos apos cpos : Pos} (he : SN X Z Γ e φ (.M t)) (hbase : attributeBase e "items" X.env (eval e X.env) = eval e X.env := by rfl) (hline : (apos.endLine == cpos.line) = true := by rfl) :
    SI X Z Γ (.Tuple elts kk tpos) (.Call (.Attribute e "items" apos) [] [] cpos) (eItN itemsD φ) (.T [.im, t]) := si_itN (J := Iti) (fun te h => pi_items h hbase hline) itD_items he
end
end VL
/-! VL45: d != e. -/
namespace VL
open PySem PySem.Spec PyProof.Rows L2 PySem.W
section
variable {prog : Program} {w : World} {G : Type} [DecidableEq G] {knd : KeyKind prog w G} {A : Around} {t : Shared}
theorem rc_ne {a b : Addr} {ka kb : List (G × Value)} {r : Bool} (ya : (a == sysModules) = false) (yb : (b == sysModules) = false) (da : t.heap.DictOf knd a ka) (db : t.heap.DictOf knd b kb) (hu : A.units < cLine)
    (hits : ka.length = kb.length → KeqHitsP prog w A.in1 t kb ka r) (E Q : Value → Shared → Prop) (h : Q (.bool (!(ka.length == kb.length && r))) t) : wpAny (model prog w) A (richCompare .NotEq (.ref a) (.ref b)) Q E t := by
  refine wpAny_richCompare_same_room (op := .NotEq) da.typeIs db.typeIs F.slot_dict_ne (wpAny_call_entry F.slot_dict_ne da.typeIs F.entry_dict_ne ?_ (F.args_dict_ne_2 _ _)) hu
  show wpAny _ _ (Builtin.Dict.dictSlotArgs "__ne__" ⟨[.ref a, .ref b], []⟩ >>= _) _ _ t
  refine wpAny_bind ?_
  unfold Builtin.Dict.dictSlotArgs
  refine wpAny_bind (wpAny_notOrdered_dict da.typeIs ?_)
  show wpAny _ _ (pure (Value.ref a, Value.ref b)) _ _ t
  refine wpAny_pure ?_
  refine wpAny_bind (wpAny_isInstance (T := "dict") db.typeIs F.sub_dict_dict ?_)
  simp only [Bool.not_true, Bool.false_eq_true, if_false]
  refine wpAny_bind (wpAny_pure (wpAny_bind (wpAny_pure ?_)))
  refine wpAny_bind (samePairsP ya yb da db hits ?_)
  refine wpAny_pure ⟨_, rfl, ?_, ?_⟩
  · exact fun x => nomatch x
  · simpa using h
end
def rNeDD (K : PySem.W.Frag) : R2 := fun x y H Q => ∃ a b ks ls r, x = .ref a ∧ y = .ref b ∧ Rd H a (.dK ks) ∧ Rd H b (.dK ls) ∧ Hits K H ls ks r ∧ Q (.bl (!(decide (ks.length = ls.length) && r))) H
theorem op_neDD {X : Cx} (hu : X.A.units + 200 < cLine) : OpR X (compareOp .NotEq) (rNeDD X.K) := by
  intro pins s σ H x y v u Q I rx ry h
  obtain ⟨a, b, ks, ls, r, rfl, rfl, ha, hb, hh, q⟩ := h
  cases (show v = Value.ref a from rx)
  cases (show u = Value.ref b from ry)
  obtain ⟨_, ya, va, ra, da⟩ := dk_rd I.hok ha
  obtain ⟨_, yb, vb, rb, db⟩ := dk_rd I.hok hb
  refine rc_ne (knd := mixKind X.prog X.w) (r := r) ya yb da db (by omega) (fun _ => hits_keq I (by show X.A.units + 1 + 160 < cLine; omega) rb hh ra) _ _ ?_
  refine ⟨.bl _, H, I, ?_, q⟩
  rw [ra.length, rb.length]
  rfl
def dNeD (a b : D) : Option D := match a, b with
  | .dic kvs, .dic lvs => (dHits lvs kvs).map fun r => .bl (!(decide (kvs.length = lvs.length) && r))
  | _, _ => none
@[simp] theorem dNeD_r (kvs lvs : List (Key × D)) : dNeD (.dic kvs) (.dic lvs) = (dHits lvs kvs).map fun r => .bl (!(decide (kvs.length = lvs.length) && r)) := (rfl)
theorem neD_s {K : PySem.W.Frag} {ta tb : Ty} : OpS K (rNeDD K) dNeD ta tb .im := fun H W x y da db d hx hy _ _ hf => by
  cases da with
  | dic kvs =>
    cases db with
    | dic lvs =>
      rw [dNeD_r] at hf
      obtain ⟨r, hr, rfl⟩ := Option.map_eq_some_iff.mp hf
      obtain ⟨a, ks, rfl, h1, h2⟩ := hx.dic
      obtain ⟨b, ls, rfl, h3, h4⟩ := hy.dic
      refine ⟨rfl, fun Q q => ⟨a, b, ks, ls, r, rfl, rfl, h1, h3, hits_s h4 h2 hr, q _ H .refl ?_⟩⟩
      rw [h2.len, h4.len]
      rfl
    | _ => cases hf
  | _ => cases hf
end VL
/-! VL46: what is wanted of a term, as a function of the term. -/
namespace VL
open PySem L2
/-! ### terms of a pool's names, without rows -/
def Cs.sm (c : Cs) : Prop := c.l.length ≤ 2 ∧ ∀ p ∈ c.l, p.2.1.length ≤ 2
mutual
def Tm.gd (pool : List Str) : Tm → Prop
  | .num _ => True
  | .name x => x ∈ pool
  | .stop _ => True
  | .bare _ => True
  | .does _ a b => a.gd pool ∧ b.gd pool
  | .fn x a => x ∈ pool ∧ a.gd pool
  | .app a b => a.gd pool ∧ b.gd pool
  | .lets bs a => bs.names.Nodup ∧ bs.gd pool ∧ a.gd pool
  | .shape _ a b => a.gd pool ∧ b.gd pool
  | .choose a cs => a.gd pool ∧ cs.gd pool ∧ cs.sm
  | .first a b => a.gd pool ∧ b.gd pool
  | .rows _ _ => False
def Bs.gd (pool : List Str) : Bs → Prop
  | .nil => True
  | .cons x t r => x ∈ pool ∧ t.gd pool ∧ r.gd pool
def Cs.gd (pool : List Str) : Cs → Prop
  | .nil => True
  | .cons _ ws t r => (∀ w ∈ ws, w ∈ pool) ∧ t.gd pool ∧ r.gd pool
end
theorem Bs.gd_mem {pool : List Str} : ∀ {b : Bs} {x : Str × Tm}, b.gd pool → x ∈ b.l → x.1 ∈ pool ∧ x.2.gd pool ∧ x.2.dp ≤ b.dp
  | .cons x t r, y, h, hy => by
    rcases List.mem_cons.mp (show y ∈ (x, t) :: r.l from hy) with e | e
    · rw [e]; exact ⟨h.1, h.2.1, Nat.le_max_left ..⟩
    · obtain ⟨h1, h2, h3⟩ := Bs.gd_mem h.2.2 e
      exact ⟨h1, h2, Nat.le_trans h3 (Nat.le_max_right ..)⟩
  | .nil, y, _, hy => by cases (show y ∈ ([] : List (Str × Tm)) from hy)
theorem Cs.gd_mem {pool : List Str} : ∀ {c : Cs} {x : Str × List Str × Tm}, c.gd pool → x ∈ c.l → (∀ w ∈ x.2.1, w ∈ pool) ∧ x.2.2.gd pool ∧ x.2.2.dp ≤ c.dp
  | .cons s ws t r, y, h, hy => by
    rcases List.mem_cons.mp (show y ∈ (s, ws, t) :: r.l from hy) with e | e
    · rw [e]; exact ⟨h.1, h.2.1, Nat.le_max_left ..⟩
    · obtain ⟨h1, h2, h3⟩ := Cs.gd_mem h.2.2 e
      exact ⟨h1, h2, Nat.le_trans h3 (Nat.le_max_right ..)⟩
  | .nil, y, _, hy => by cases (show y ∈ ([] : List (Str × List Str × Tm)) from hy)
/-! ### rows of funs, of calls -/
def Tm.fs : Tm → List Str × Tm
  | .fn x a => (x :: a.fs.1, a.fs.2)
  | t => ([], t)
def Tm.sp : Tm → List Tm → Tm × List Tm
  | .app a b, gs => a.sp (b :: gs)
  | t, gs => (t, gs)
/-- a paper: names, how many, bits -/
abbrev Sh := List (Str × Nat × Int)
def Sh.at (S : Sh) (x : Str) : Option (Nat × Int) := (S.find? fun p => p.1 == x).map (·.2)
def Wt.has (w : Wt) (z : Str) : Bool := match w with
  | none => true
  | some f => f z
def wOne (x : Str) : Wt := some fun y => decide (y = x)
def wNil : Wt := some fun _ => false
def bitAt (bits : Int) (i : Nat) : Bool := decide (Builtin.bitAnd (bits / 2 ^ i) 1 = 1)
def knownW (bits : Int) (gs : List Wt) (acc : Wt) : Nat → Wt
  | 0 => acc
  | i + 1 => if bitAt bits i = true then (knownW bits gs acc i).both (gs.getD i wNil) else knownW bits gs acc i
def ofName (S : Sh) (x : Str) (gs : List Wt) : Wt := match S.at x with
  | none => wOne x
  | some (m, b) => if m ≤ gs.length then knownW b gs (wOne x) m else wOne x
def funW (v : Wt) (ns : List Str) (gs : List Wt) : Nat → Wt
  | 0 => v.less ns
  | i + 1 => match v with
    | none => funW v ns gs i
    | some f => if f (ns.getD i "") = true ∧ ns.getD i "" ∉ ns.drop (i + 1) then (funW v ns gs i).both (gs.getD i wNil) else funW v ns gs i
def cl (ns : List Str) (gs : List Wt) (v : Wt) : Wt := if ns = [] then v else if gs.length < ns.length then wNil else funW v ns gs ns.length
def ap (ns : List Str) (gs : List Wt) : List Wt := if ns = [] then gs else []
/-- once through a let's things -/
def pass : List (Str × Wt) → Wt → Wt
  | [], w => w
  | p :: r, w => pass r (if w.has p.1 = true then w.both p.2 else w)
def passN (ps : List (Str × Wt)) : Nat → Wt → Wt
  | 0, w => w
  | n + 1, w => pass ps (passN ps n w)
mutual
def wt (S : Sh) : Tm → List Str → List Wt → Wt
  | .num _, ns, gs => cl ns gs wNil
  | .name x, ns, gs => cl ns gs (ofName S x (ap ns gs))
  | .stop _, ns, gs => cl ns gs none
  | .bare _, ns, gs => cl ns gs wNil
  | .does _ a b, ns, gs => cl ns gs ((wt S a [] []).both (wt S b [] []))
  | .fn x a, ns, gs => wt S a (ns ++ [x]) gs
  | .app a b, ns, gs => cl ns gs (wt S a [] (wt S b [] [] :: ap ns gs))
  | .lets bs a, ns, gs => cl ns gs ((passN (wtB S bs) bs.names.length (wt S a [] [])).less bs.names)
  | .shape _ _ _, ns, gs => cl ns gs wNil
  | .choose a cs, ns, gs => cl ns gs ((wt S a [] []).both (wtC S cs none))
  | .first a b, ns, gs => cl ns gs ((wt S a [] []).both (wt S b [] []))
  | .rows _ _, ns, gs => cl ns gs wNil
def wtB (S : Sh) : Bs → List (Str × Wt)
  | .nil => []
  | .cons x t r => (x, wt S t [] []) :: wtB S r
def wtC (S : Sh) : Cs → Wt → Wt
  | .nil, acc => acc
  | .cons _ ws t r, acc => wtC S r (acc.common ((wt S t [] []).less ws))
end
/-- what is wanted of a term -/
def wtT (S : Sh) (t : Tm) : Wt := wt S t [] []
def Tm.isFn : Tm → Bool
  | .fn _ _ => true
  | _ => false
def Tm.isApp : Tm → Bool
  | .app _ _ => true
  | _ => false
theorem fs_not : ∀ t : Tm, t.fs.2.isFn = false
  | .fn x a => fs_not a
  | .num _ => rfl
  | .name _ => rfl
  | .stop _ => rfl
  | .bare _ => rfl
  | .does _ _ _ => rfl
  | .app _ _ => rfl
  | .lets _ _ => rfl
  | .shape _ _ _ => rfl
  | .choose _ _ => rfl
  | .first _ _ => rfl
  | .rows _ _ => rfl
theorem sp_not : ∀ (t : Tm) (gs : List Tm), (t.sp gs).1.isApp = false
  | .app a b, gs => sp_not a (b :: gs)
  | .fn x a, _ => rfl
  | .num _, _ => rfl
  | .name _, _ => rfl
  | .stop _, _ => rfl
  | .bare _, _ => rfl
  | .does _ _ _, _ => rfl
  | .lets _ _, _ => rfl
  | .shape _ _ _, _ => rfl
  | .choose _ _, _ => rfl
  | .first _ _, _ => rfl
  | .rows _ _, _ => rfl
theorem cl_nil (gs : List Wt) (v : Wt) : cl [] gs v = v := if_pos rfl
theorem ap_nil (gs : List Wt) : ap [] gs = gs := if_pos rfl
/-- a term that is no fun, within funs -/
theorem wt_cl (S : Sh) {t : Tm} (h : t.isFn = false) {ns : List Str} (hn : ns ≠ []) (gs : List Wt) : wt S t ns gs = cl ns gs (wtT S t) := by
  have e : ap ns gs = [] := if_neg hn
  cases t <;> first | (simp only [wtT, wt, cl_nil, ap_nil, e]; done) | cases h
theorem wt_fs (S : Sh) : ∀ (t : Tm) (ns : List Str) (gs : List Wt), wt S t ns gs = wt S t.fs.2 (ns ++ t.fs.1) gs
  | .fn x a, ns, gs => by
    show wt S a (ns ++ [x]) gs = wt S a.fs.2 (ns ++ (x :: a.fs.1)) gs
    rw [wt_fs S a, List.append_assoc]
    rfl
  | .num _, ns, gs => by rw [show Tm.fs _ = ([], _) from rfl, List.append_nil]
  | .name _, ns, gs => by rw [show Tm.fs _ = ([], _) from rfl, List.append_nil]
  | .stop _, ns, gs => by rw [show Tm.fs _ = ([], _) from rfl, List.append_nil]
  | .bare _, ns, gs => by rw [show Tm.fs _ = ([], _) from rfl, List.append_nil]
  | .does _ _ _, ns, gs => by rw [show Tm.fs _ = ([], _) from rfl, List.append_nil]
  | .app _ _, ns, gs => by rw [show Tm.fs _ = ([], _) from rfl, List.append_nil]
  | .lets _ _, ns, gs => by rw [show Tm.fs _ = ([], _) from rfl, List.append_nil]
  | .shape _ _ _, ns, gs => by rw [show Tm.fs _ = ([], _) from rfl, List.append_nil]
  | .choose _ _, ns, gs => by rw [show Tm.fs _ = ([], _) from rfl, List.append_nil]
  | .first _ _, ns, gs => by rw [show Tm.fs _ = ([], _) from rfl, List.append_nil]
  | .rows _ _, ns, gs => by rw [show Tm.fs _ = ([], _) from rfl, List.append_nil]
/-- funs in a row, given what stands behind -/
theorem wt_fun (S : Sh) {t : Tm} (h : t.isFn = true) (gs : List Wt) : wt S t [] gs = if gs.length < t.fs.1.length then wNil else funW (wtT S t.fs.2) t.fs.1 gs t.fs.1.length := by
  have hn : t.fs.1 ≠ [] := by
    cases t <;> first | (simp [Tm.fs]; done) | cases h
  rw [wt_fs, List.nil_append, wt_cl S (fs_not t) hn]
  unfold cl
  rw [if_neg hn]
theorem wt_sp (S : Sh) : ∀ (t : Tm) (gs : List Tm) (ws : List Wt), wt S t [] (gs.map (wtT S) ++ ws) = wt S (t.sp gs).1 [] ((t.sp gs).2.map (wtT S) ++ ws)
  | .app a b, gs, ws => by
    rw [show (Tm.app a b).sp gs = a.sp (b :: gs) from rfl, ← wt_sp S a (b :: gs) ws]
    simp only [wt, cl_nil, ap_nil]
    rfl
  | .fn _ _, _, _ => rfl
  | .num _, _, _ => rfl
  | .name _, _, _ => rfl
  | .stop _, _, _ => rfl
  | .bare _, _, _ => rfl
  | .does _ _ _, _, _ => rfl
  | .lets _ _, _, _ => rfl
  | .shape _ _ _, _, _ => rfl
  | .choose _ _, _, _ => rfl
  | .first _ _, _, _ => rfl
  | .rows _ _, _, _ => rfl
theorem wt_call (S : Sh) (t : Tm) : wtT S t = wt S (t.sp []).1 [] ((t.sp []).2.map (wtT S)) := by
  have := wt_sp S t [] []
  simp only [List.append_nil, List.map_nil, List.nil_append] at this
  exact this
theorem wtB_names (S : Sh) : ∀ b : Bs, (wtB S b).map (·.1) = b.names
  | .nil => rfl
  | .cons x t r => by simp only [wtB, List.map_cons, wtB_names S r]; rfl
theorem wtB_l (S : Sh) : ∀ b : Bs, wtB S b = b.l.map fun p => (p.1, wtT S p.2)
  | .nil => rfl
  | .cons x t r => by
    rw [show wtB S (.cons x t r) = (x, wt S t [] []) :: wtB S r by simp only [wtB], wtB_l S r]
    rfl
theorem wtC_l (S : Sh) : ∀ (c : Cs) (acc : Wt), wtC S c acc = c.l.foldl (fun acc p => acc.common ((wtT S p.2.2).less p.2.1)) acc
  | .nil, acc => by simp only [wtC]; rfl
  | .cons s ws t r, acc => by
    rw [show wtC S (.cons s ws t r) acc = wtC S r (acc.common ((wt S t [] []).less ws)) by simp only [wtC], wtC_l S r]
    rfl
/-! ### sizes of rows -/
theorem fs_dp : ∀ t : Tm, t.fs.1.length + t.fs.2.dp ≤ t.dp
  | .fn x a => by
    have := fs_dp a
    show a.fs.1.length + 1 + a.fs.2.dp ≤ a.dp + 1
    omega
  | .num _ => Nat.le_of_eq (Nat.zero_add _)
  | .name _ => Nat.le_of_eq (Nat.zero_add _)
  | .stop _ => Nat.le_of_eq (Nat.zero_add _)
  | .bare _ => Nat.le_of_eq (Nat.zero_add _)
  | .does _ _ _ => Nat.le_of_eq (Nat.zero_add _)
  | .app _ _ => Nat.le_of_eq (Nat.zero_add _)
  | .lets _ _ => Nat.le_of_eq (Nat.zero_add _)
  | .shape _ _ _ => Nat.le_of_eq (Nat.zero_add _)
  | .choose _ _ => Nat.le_of_eq (Nat.zero_add _)
  | .first _ _ => Nat.le_of_eq (Nat.zero_add _)
  | .rows _ _ => Nat.le_of_eq (Nat.zero_add _)
theorem sp_dp : ∀ (t : Tm) (gs : List Tm) (p k : Nat), t.dp ≤ p → (∀ g ∈ gs, g.dp < k) → p ≤ k → (t.sp gs).1.dp ≤ p ∧ (∀ g ∈ (t.sp gs).2, g.dp < k) ∧ (t.sp gs).2.length ≤ gs.length + t.dp
  | .app a b, gs, p, k, h, hg, hk => by
    have h : max a.dp b.dp + 1 ≤ p := h
    have e : (Tm.app a b).dp = max a.dp b.dp + 1 := rfl
    obtain ⟨h1, h2, h3⟩ := sp_dp a (b :: gs) p k (by omega) (fun g hg' => by
      rcases List.mem_cons.mp hg' with q | q
      · rw [q]; omega
      · exact hg g q) hk
    refine ⟨h1, h2, ?_⟩
    rw [List.length_cons] at h3
    show (a.sp (b :: gs)).2.length ≤ _
    omega
  | .fn _ _, gs, p, k, h, hg, hk => ⟨h, hg, Nat.le_add_right ..⟩
  | .num _, gs, p, k, h, hg, hk => ⟨h, hg, Nat.le_add_right ..⟩
  | .name _, gs, p, k, h, hg, hk => ⟨h, hg, Nat.le_add_right ..⟩
  | .stop _, gs, p, k, h, hg, hk => ⟨h, hg, Nat.le_add_right ..⟩
  | .bare _, gs, p, k, h, hg, hk => ⟨h, hg, Nat.le_add_right ..⟩
  | .does _ _ _, gs, p, k, h, hg, hk => ⟨h, hg, Nat.le_add_right ..⟩
  | .lets _ _, gs, p, k, h, hg, hk => ⟨h, hg, Nat.le_add_right ..⟩
  | .shape _ _ _, gs, p, k, h, hg, hk => ⟨h, hg, Nat.le_add_right ..⟩
  | .choose _ _, gs, p, k, h, hg, hk => ⟨h, hg, Nat.le_add_right ..⟩
  | .first _ _, gs, p, k, h, hg, hk => ⟨h, hg, Nat.le_add_right ..⟩
  | .rows _ _, gs, p, k, h, hg, hk => ⟨h, hg, Nat.le_add_right ..⟩
/-- the head of an app is less deep -/
theorem sp_lt {a b : Tm} : ((Tm.app a b).sp []).1.dp < (Tm.app a b).dp ∧ (∀ g ∈ ((Tm.app a b).sp []).2, g.dp < (Tm.app a b).dp) ∧ ((Tm.app a b).sp []).2.length ≤ (Tm.app a b).dp := by
  have e : (Tm.app a b).dp = max a.dp b.dp + 1 := rfl
  obtain ⟨h1, h2, h3⟩ := sp_dp a [b] (max a.dp b.dp) (max a.dp b.dp + 1) (Nat.le_max_left ..) (fun g hg => by
    rw [List.mem_singleton.mp hg]
    omega) (Nat.le_succ _)
  refine ⟨by rw [e]; exact Nat.lt_succ_of_le h1, by rw [e]; exact h2, ?_⟩
  rw [e]
  have : ((Tm.app a b).sp []).2.length ≤ [b].length + a.dp := h3
  simp only [List.length_cons, List.length_nil] at this
  omega
theorem fs_gd {pool : List Str} : ∀ {t : Tm}, t.gd pool → (∀ x ∈ t.fs.1, x ∈ pool) ∧ t.fs.2.gd pool
  | .fn x a, h => by
    obtain ⟨h1, h2⟩ := fs_gd (t := a) h.2
    refine ⟨fun y hy => ?_, h2⟩
    rcases List.mem_cons.mp (show y ∈ x :: a.fs.1 from hy) with e | e
    · rw [e]; exact h.1
    · exact h1 y e
  | .num _, h => ⟨nofun, h⟩
  | .name _, h => ⟨nofun, h⟩
  | .stop _, h => ⟨nofun, h⟩
  | .bare _, h => ⟨nofun, h⟩
  | .does _ _ _, h => ⟨nofun, h⟩
  | .app _ _, h => ⟨nofun, h⟩
  | .lets _ _, h => ⟨nofun, h⟩
  | .shape _ _ _, h => ⟨nofun, h⟩
  | .choose _ _, h => ⟨nofun, h⟩
  | .first _ _, h => ⟨nofun, h⟩
  | .rows _ _, h => h.elim
theorem sp_gd {pool : List Str} : ∀ {t : Tm} {gs : List Tm}, t.gd pool → (∀ g ∈ gs, g.gd pool) → (t.sp gs).1.gd pool ∧ ∀ g ∈ (t.sp gs).2, g.gd pool
  | .app a b, gs, h, hg => sp_gd (t := a) h.1 fun g q => by
    rcases List.mem_cons.mp q with e | e
    · rw [e]; exact h.2
    · exact hg g e
  | .fn _ _, gs, h, hg => ⟨h, hg⟩
  | .num _, gs, h, hg => ⟨h, hg⟩
  | .name _, gs, h, hg => ⟨h, hg⟩
  | .stop _, gs, h, hg => ⟨h, hg⟩
  | .bare _, gs, h, hg => ⟨h, hg⟩
  | .does _ _ _, gs, h, hg => ⟨h, hg⟩
  | .lets _ _, gs, h, hg => ⟨h, hg⟩
  | .shape _ _ _, gs, h, hg => ⟨h, hg⟩
  | .choose _ _, gs, h, hg => ⟨h, hg⟩
  | .first _ _, gs, h, hg => ⟨h, hg⟩
  | .rows _ _, gs, h, hg => ⟨h, hg⟩
/-! ### within the pool -/
def Wt.In (pool : List Str) (w : Wt) : Prop := ∀ f, w = some f → ∀ z, f z = true → z ∈ pool
section
variable {pool : List Str}
theorem in_none : Wt.In pool none := fun f e => by cases e
theorem in_nil : Wt.In pool wNil := fun f e z h => by cases e; cases h
theorem in_one {x : Str} (hx : x ∈ pool) : Wt.In pool (wOne x) := fun f e z h => by
  cases e
  rw [of_decide_eq_true h]
  exact hx
theorem in_both {v w : Wt} (hv : Wt.In pool v) (hw : Wt.In pool w) : Wt.In pool (v.both w) := fun h e z hz => by
  cases v with
  | none => cases e
  | some f =>
    cases w with
    | none => cases e
    | some g =>
      cases e
      rcases (Bool.or_eq_true ..).mp hz with q | q
      · exact hv f rfl z q
      · exact hw g rfl z q
theorem in_less {v : Wt} (hv : Wt.In pool v) (ns : List Str) : Wt.In pool (v.less ns) := fun h e z hz => by
  cases v with
  | none => cases e
  | some f =>
    cases e
    exact hv f rfl z ((Bool.and_eq_true ..).mp hz).1
theorem in_common {v w : Wt} (hv : Wt.In pool v) (hw : Wt.In pool w) : Wt.In pool (v.common w) := fun h e z hz => by
  cases v with
  | none => exact hw h e z hz
  | some f =>
    cases w with
    | none => exact hv h e z hz
    | some g =>
      cases e
      exact hv f rfl z ((Bool.and_eq_true ..).mp hz).1
theorem in_getD {gs : List Wt} (h : ∀ g ∈ gs, Wt.In pool g) (i : Nat) : Wt.In pool (gs.getD i wNil) := by
  rw [List.getD_eq_getElem?_getD]
  cases e : gs[i]? with
  | none => exact in_nil
  | some g => exact h g (List.mem_of_getElem? e)
theorem in_known {b : Int} {gs : List Wt} {acc : Wt} (ha : Wt.In pool acc) (h : ∀ g ∈ gs, Wt.In pool g) : ∀ i, Wt.In pool (knownW b gs acc i)
  | 0 => ha
  | i + 1 => by
    unfold knownW
    split
    · exact in_both (in_known ha h i) (in_getD h i)
    · exact in_known ha h i
theorem in_name {S : Sh} {x : Str} (hx : x ∈ pool) {gs : List Wt} (h : ∀ g ∈ gs, Wt.In pool g) : Wt.In pool (ofName S x gs) := by
  unfold ofName
  split
  · exact in_one hx
  · split
    · exact in_known (in_one hx) h _
    · exact in_one hx
theorem in_fun {v : Wt} {ns : List Str} {gs : List Wt} (hv : Wt.In pool v) (h : ∀ g ∈ gs, Wt.In pool g) : ∀ i, Wt.In pool (funW v ns gs i)
  | 0 => in_less hv ns
  | i + 1 => by
    cases v with
    | none => exact in_fun hv h i
    | some f =>
      show Wt.In pool (if f (ns.getD i "") = true ∧ ns.getD i "" ∉ ns.drop (i + 1) then (funW (some f) ns gs i).both (gs.getD i wNil) else funW (some f) ns gs i)
      split
      · exact in_both (in_fun hv h i) (in_getD h i)
      · exact in_fun hv h i
theorem in_cl {ns : List Str} {gs : List Wt} {v : Wt} (hv : Wt.In pool v) (h : ∀ g ∈ gs, Wt.In pool g) : Wt.In pool (cl ns gs v) := by
  unfold cl
  split
  · exact hv
  · split
    · exact in_nil
    · exact in_fun hv h _
theorem in_ap {ns : List Str} {gs : List Wt} (h : ∀ g ∈ gs, Wt.In pool g) : ∀ g ∈ ap ns gs, Wt.In pool g := by
  unfold ap
  split
  · exact h
  · exact fun _ q => by cases q
theorem in_pass : ∀ {ps : List (Str × Wt)} {w : Wt}, (∀ p ∈ ps, Wt.In pool p.2) → Wt.In pool w → Wt.In pool (pass ps w)
  | [], _, _, hw => hw
  | p :: r, w, h, hw => by
    show Wt.In pool (pass r (if w.has p.1 = true then w.both p.2 else w))
    refine in_pass (fun q hq => h q (List.mem_cons_of_mem _ hq)) ?_
    split
    · exact in_both hw (h p List.mem_cons_self)
    · exact hw
theorem in_passN {ps : List (Str × Wt)} (h : ∀ p ∈ ps, Wt.In pool p.2) {w : Wt} (hw : Wt.In pool w) : ∀ n, Wt.In pool (passN ps n w)
  | 0 => hw
  | n + 1 => in_pass h (in_passN h hw n)
end
mutual
theorem in_wt {pool : List Str} (S : Sh) : ∀ (t : Tm) (ns : List Str) (gs : List Wt), t.gd pool → (∀ g ∈ gs, Wt.In pool g) → Wt.In pool (wt S t ns gs)
  | .num _, ns, gs, _, h => by simp only [wt]; exact in_cl in_nil h
  | .name x, ns, gs, g, h => by simp only [wt]; exact in_cl (in_name g (in_ap h)) h
  | .stop _, ns, gs, _, h => by simp only [wt]; exact in_cl in_none h
  | .bare _, ns, gs, _, h => by simp only [wt]; exact in_cl in_nil h
  | .does _ a b, ns, gs, g, h => by simp only [wt]; exact in_cl (in_both (in_wt S a [] [] g.1 nofun) (in_wt S b [] [] g.2 nofun)) h
  | .fn x a, ns, gs, g, h => by simp only [wt]; exact in_wt S a _ gs g.2 h
  | .app a b, ns, gs, g, h => by
    simp only [wt]
    refine in_cl (in_wt S a _ _ g.1 fun z hz => ?_) h
    rcases List.mem_cons.mp hz with e | e
    · rw [e]; exact in_wt S b [] [] g.2 nofun
    · exact in_ap h z e
  | .lets bs a, ns, gs, g, h => by simp only [wt]; exact in_cl (in_less (in_passN (in_wtB S bs g.2.1) (in_wt S a [] [] g.2.2 nofun) _) _) h
  | .shape _ _ _, ns, gs, _, h => by simp only [wt]; exact in_cl in_nil h
  | .choose a cs, ns, gs, g, h => by simp only [wt]; exact in_cl (in_both (in_wt S a [] [] g.1 nofun) (in_wtC S cs none g.2.1 in_none)) h
  | .first a b, ns, gs, g, h => by simp only [wt]; exact in_cl (in_both (in_wt S a [] [] g.1 nofun) (in_wt S b [] [] g.2 nofun)) h
  | .rows _ _, ns, gs, g, _ => g.elim
theorem in_wtB {pool : List Str} (S : Sh) : ∀ (b : Bs), b.gd pool → ∀ p ∈ wtB S b, Wt.In pool p.2
  | .nil, _, p, hp => by simp only [wtB] at hp; cases hp
  | .cons x t r, g, p, hp => by
    simp only [wtB] at hp
    rcases List.mem_cons.mp hp with e | e
    · rw [e]; exact in_wt S t [] [] g.2.1 nofun
    · exact in_wtB S r g.2.2 p e
theorem in_wtC {pool : List Str} (S : Sh) : ∀ (c : Cs) (acc : Wt), c.gd pool → Wt.In pool acc → Wt.In pool (wtC S c acc)
  | .nil, acc, _, h => by simp only [wtC]; exact h
  | .cons _ ws t r, acc, g, h => by
    simp only [wtC]
    exact in_wtC S r _ g.2.2 (in_common h (in_less (in_wt S t [] [] g.2.1 nofun) ws))
end
theorem in_wtT {pool : List Str} (S : Sh) {t : Tm} (g : t.gd pool) : Wt.In pool (wtT S t) := in_wt S t [] [] g nofun
end VL
/-! VL47: comprehensions that map; passes through a let's things. -/
namespace VL
open PySem L2
theorem fIns_0 {ds : List D} {x : D} (h : ds.length ≤ 100000) : fIns ds [.int 0, x] = some (.non, x :: ds) := by
  unfold fIns
  show (if _ then _ else _) = _
  rw [if_pos ⟨size_lt h, by decide, by decide⟩]
  simp
theorem cutL_drop {α : Type} (xs : List α) (k : Nat) : cutL xs (some (k : Int)) none = xs.drop k := by
  have e : HT.sIx xs.length 0 (some (k : Int)) = min k xs.length := by
    unfold HT.sIx
    have : ¬ ((k : Int) < 0) := by omega
    simp [this]
    try omega
  have e2 : HT.sIx xs.length xs.length none = xs.length := rfl
  unfold cutL
  rw [e, e2]
  by_cases h : k ≤ xs.length
  · rw [Nat.min_eq_left h, List.take_of_length_le (by rw [List.length_drop]; omega)]
  · rw [Nat.min_eq_right (by omega), List.drop_length, List.drop_of_length_le (by omega)]
    simp
theorem map_inr {α : Type} {l : List α} (f : α → D) : (l.map f).length = l.length := List.length_map ..
/-- a comprehension that maps -/
theorem lc_map {α : Type} {φ : EM D} {i : Nat} {ρ : List D} (l : List α) (g f : α → D) (hl : l.length ≤ 100000) (hi : i < ρ.length) (hφ : ∀ x ∈ l, ∀ ρ', (∃ d, ρ' = ρ.set i d) → φ (ρ'.set i (g x)) = .ok (f x) (ρ'.set i (g x))) :
    (lcL (.nm i) eYes φ (l.map g) [] ρ).sat fun acc ρ2 => acc = l.map f ∧ ∃ d, ρ2 = ρ.set i d := by
  refine lc_sat _ _ _ (fun k acc ρ2 => acc = (l.take k).map f ∧ ∃ d, ρ2 = ρ.set i d) ⟨rfl, ρ[i], (List.set_getElem_self hi).symm⟩ (fun k d acc ρ2 hd ⟨ha, x, hx⟩ => ?_) (fun acc ρ2 ⟨ha, hx⟩ => ?_)
  · obtain ⟨y, hy, rfl⟩ := map_at hd
    refine ⟨_, rfl, ?_⟩
    rw [eYes_r, sat_ok, if_pos rfl, hφ y (List.mem_of_getElem? hy) ρ2 ⟨x, hx⟩, sat_ok]
    refine ⟨?_, ?_, g y, ?_⟩
    · rw [ha, List.length_map]
      exact size_lt (Nat.le_trans (by rw [List.length_take]; omega) hl)
    · rw [take_snoc hy, List.map_append, ha]
      rfl
    · rw [hx, List.set_set]
  · rw [List.length_map, List.take_length] at ha
    exact ⟨ha, hx⟩
/-! ### passes -/
theorem both_none (w : Wt) : Wt.both none w = none := by cases w <;> rfl
theorem both_none' (w : Wt) : Wt.both w none = none := by cases w <;> rfl
theorem both_swap : ∀ a b c : Wt, (a.both b).both c = (a.both c).both b
  | none, _, _ => by simp only [both_none]
  | some f, none, c => by simp only [both_none, both_none']
  | some f, some g, none => by simp only [both_none, both_none']
  | some f, some g, some h => congrArg some (funext fun z => Bool.or_right_comm (f z) (g z) (h z))
theorem both_idem : ∀ a b : Wt, (a.both b).both b = a.both b
  | none, _ => by simp only [both_none]
  | some f, none => rfl
  | some f, some g => congrArg some (funext fun z => by show ((f z || g z) || g z) = (f z || g z); rw [Bool.or_assoc, Bool.or_self])
theorem pass_none : ∀ ps : List (Str × Wt), pass ps none = none
  | [] => rfl
  | p :: r => by
    show pass r (if Wt.has none p.1 = true then Wt.both none p.2 else none) = none
    rw [both_none, ite_self, pass_none r]
theorem pass_snoc (p : Str × Wt) : ∀ (ps : List (Str × Wt)) (w : Wt), pass (ps ++ [p]) w = (if (pass ps w).has p.1 = true then (pass ps w).both p.2 else pass ps w)
  | [], w => rfl
  | q :: r, w => pass_snoc p r _
theorem pass_take {ps : List (Str × Wt)} {i : Nat} {p : Str × Wt} (h : ps[i]? = some p) (w : Wt) : pass (ps.take (i + 1)) w = (if (pass (ps.take i) w).has p.1 = true then (pass (ps.take i) w).both p.2 else pass (ps.take i) w) := by
  rw [take_snoc h, pass_snoc]
/-- nothing more comes -/
def shut (ps : List (Str × Wt)) (w : Wt) : Prop := ∀ p ∈ ps, w.has p.1 = true → w.both p.2 = w
theorem pass_shut : ∀ {ps : List (Str × Wt)} {w : Wt}, shut ps w → pass ps w = w
  | [], _, _ => rfl
  | p :: r, w, h => by
    show pass r (if w.has p.1 = true then w.both p.2 else w) = w
    have e : (if w.has p.1 = true then w.both p.2 else w) = w := by
      split
      · exact h p List.mem_cons_self ‹_›
      · rfl
    rw [e]
    exact pass_shut fun q hq => h q (List.mem_cons_of_mem _ hq)
theorem passN_shut {ps : List (Str × Wt)} {w : Wt} {j : Nat} (h : shut ps (passN ps j w)) : ∀ k, passN ps (j + k) w = passN ps j w
  | 0 => rfl
  | k + 1 => by
    show pass ps (passN ps (j + k) w) = _
    rw [passN_shut h k, pass_shut h]
theorem passN_end {ps : List (Str × Wt)} {w : Wt} {j n : Nat} (h : shut ps (passN ps j w)) (hj : j ≤ n) : passN ps n w = passN ps j w := by
  obtain ⟨k, rfl⟩ : ∃ k, n = j + k := ⟨n - j, by omega⟩
  exact passN_shut h k
theorem has_both {v w : Wt} {z : Str} (h : v.has z = true) : (v.both w).has z = true := by
  cases v with
  | none => rw [both_none]; rfl
  | some f =>
    cases w with
    | none => rfl
    | some g => exact (Bool.or_eq_true ..).mpr (.inl h)
end VL
/-! VL48: which names a term binds, which funs its lets bind; dicts that count. -/
namespace VL
open PySem L2
def Tm.pts : Tm → List Tm
  | .does _ a b => [a, b]
  | .fn _ a => [a]
  | .app a b => [a, b]
  | .first a b => [a, b]
  | .lets bs a => bs.l.map (·.2) ++ [a]
  | .shape _ a b => [a, b]
  | .choose a cs => a :: cs.l.map (·.2.2)
  | _ => []
def Tm.own : Tm → List Str
  | .fn x _ => [x]
  | .lets bs _ => bs.names
  | .choose _ cs => cs.l.flatMap (·.2.1)
  | _ => []
def Tm.ownF : Tm → List (Str × Tm)
  | .lets bs _ => bs.l.filter fun p => p.2.isFn
  | _ => []
theorem bs_mem_dp : ∀ {b : Bs} {p : Str × Tm}, p ∈ b.l → p.2.dp ≤ b.dp
  | .nil, p, h => by cases (show p ∈ ([] : List (Str × Tm)) from h)
  | .cons x t r, p, h => by
    rcases List.mem_cons.mp (show p ∈ (x, t) :: r.l from h) with e | e
    · rw [e]; exact Nat.le_max_left ..
    · exact Nat.le_trans (bs_mem_dp e) (Nat.le_max_right ..)
theorem cs_mem_dp : ∀ {b : Cs} {p : Str × List Str × Tm}, p ∈ b.l → p.2.2.dp ≤ b.dp
  | .nil, p, h => by cases (show p ∈ ([] : List (Str × List Str × Tm)) from h)
  | .cons s ws t r, p, h => by
    rcases List.mem_cons.mp (show p ∈ (s, ws, t) :: r.l from h) with e | e
    · rw [e]; exact Nat.le_max_left ..
    · exact Nat.le_trans (cs_mem_dp e) (Nat.le_max_right ..)
theorem snocRec {α : Type} {P : List α → Prop} (h0 : P []) (h1 : ∀ l x, P l → P (l ++ [x])) (l : List α) : P l := by
  have : ∀ l : List α, P l.reverse := fun l => by
    induction l with
    | nil => exact h0
    | cons x r ih => rw [List.reverse_cons]; exact h1 _ x ih
  rw [← List.reverse_reverse l]
  exact this _
theorem Tm.pts_dp {t u : Tm} (h : u ∈ t.pts) : u.dp < t.dp := by
  cases t with
  | num _ => cases h
  | name _ => cases h
  | stop _ => cases h
  | bare _ => cases h
  | rows _ _ => cases h
  | does o a b =>
    have h : u ∈ [a, b] := h
    have e : (Tm.does o a b).dp = max a.dp b.dp + 1 := rfl
    simp only [List.mem_cons, List.not_mem_nil, or_false] at h
    rcases h with rfl | rfl <;> omega
  | fn x a =>
    have h : u ∈ [a] := h
    rw [List.mem_singleton.mp h]
    exact Nat.lt_succ_self _
  | app a b =>
    have h : u ∈ [a, b] := h
    have e : (Tm.app a b).dp = max a.dp b.dp + 1 := rfl
    simp only [List.mem_cons, List.not_mem_nil, or_false] at h
    rcases h with rfl | rfl <;> omega
  | first a b =>
    have h : u ∈ [a, b] := h
    have e : (Tm.first a b).dp = max a.dp b.dp + 1 := rfl
    simp only [List.mem_cons, List.not_mem_nil, or_false] at h
    rcases h with rfl | rfl <;> omega
  | shape s a b =>
    have h : u ∈ [a, b] := h
    have e : (Tm.shape s a b).dp = max a.dp b.dp + 1 := rfl
    simp only [List.mem_cons, List.not_mem_nil, or_false] at h
    rcases h with rfl | rfl <;> omega
  | lets bs a =>
    have h : u ∈ bs.l.map (·.2) ++ [a] := h
    have e : (Tm.lets bs a).dp = max bs.dp a.dp + 1 := rfl
    rcases List.mem_append.mp h with h | h
    · obtain ⟨p, hp, rfl⟩ := List.mem_map.mp h
      have := bs_mem_dp hp
      omega
    · rw [List.mem_singleton.mp h]; omega
  | choose a cs =>
    have h : u ∈ a :: cs.l.map (·.2.2) := h
    have e : (Tm.choose a cs).dp = max a.dp cs.dp + 1 := rfl
    rcases List.mem_cons.mp h with h | h
    · rw [h]; omega
    · obtain ⟨p, hp, rfl⟩ := List.mem_map.mp h
      have := cs_mem_dp hp
      omega
/-- the names bound in a term, itself first -/
def Tm.bn (t : Tm) : List Str := t.own ++ (t.pts.attach.flatMap fun u => u.1.bn)
termination_by t.dp
decreasing_by exact Tm.pts_dp u.2
/-- the funs that lets bind in a term -/
def Tm.fl (t : Tm) : List (Str × Tm) := t.ownF ++ (t.pts.attach.flatMap fun u => u.1.fl)
termination_by t.dp
decreasing_by exact Tm.pts_dp u.2
theorem attach_flatMap {α β : Type} (l : List α) (f : α → List β) : (l.attach.flatMap fun u => f u.1) = l.flatMap f := by
  rw [List.flatMap_def, List.flatMap_def, ← List.attach_map_subtype_val l, List.map_map]
  simp
theorem bn_eq (t : Tm) : t.bn = t.own ++ t.pts.flatMap Tm.bn := by
  rw [Tm.bn, attach_flatMap t.pts Tm.bn]
theorem fl_eq (t : Tm) : t.fl = t.ownF ++ t.pts.flatMap Tm.fl := by
  rw [Tm.fl, attach_flatMap t.pts Tm.fl]
/-! ### dicts -/
abbrev Kvs := List (Key × D)
theorem dVal_set (kvs : Kvs) (k j : Key) (d : D) : dVal (dSet kvs k d) j = if j = k then some d else dVal kvs j := by
  have rep : ∀ l : Kvs, (l.any fun kv => decide (kv.1 = k)) = true → ((l.map fun kv => if kv.1 = k then (kv.1, d) else kv).find? fun kv => decide (kv.1 = k)).map (·.2) = some d := fun l => by
    induction l with
    | nil => intro h; cases h
    | cons p r ih =>
      intro h
      rw [List.map_cons, List.find?_cons]
      by_cases e : p.1 = k
      · rw [if_pos e]
        simp [e]
      · rw [if_neg e]
        have : decide (p.1 = k) = false := decide_eq_false e
        rw [this]
        rw [List.any_cons, this, Bool.false_or] at h
        exact ih h
  have oth : ∀ l : Kvs, j ≠ k → ((l.map fun kv => if kv.1 = k then (kv.1, d) else kv).find? fun kv => decide (kv.1 = j)).map (·.2) = (l.find? fun kv => decide (kv.1 = j)).map (·.2) := fun l n => by
    induction l with
    | nil => rfl
    | cons p r ih =>
      rw [List.map_cons, List.find?_cons, List.find?_cons]
      by_cases e : p.1 = k
      · rw [if_pos e]
        have : decide (p.1 = j) = false := decide_eq_false fun q => n (q ▸ e)
        simp only [this]
        exact ih
      · rw [if_neg e]
        by_cases e2 : p.1 = j
        · simp [e2]
        · have : decide (p.1 = j) = false := decide_eq_false e2
          simp only [this]
          exact ih
  unfold dVal dSet
  by_cases h : (kvs.any fun kv => decide (kv.1 = k)) = true
  · rw [if_pos h]
    by_cases e : j = k
    · rw [if_pos e, e]; exact rep kvs h
    · rw [if_neg e]; exact oth kvs e
  · rw [if_neg h, List.find?_append]
    have no : ∀ kv ∈ kvs, ¬ kv.1 = k := fun kv hk e => h (List.any_eq_true.mpr ⟨kv, hk, decide_eq_true e⟩)
    by_cases e : j = k
    · rw [if_pos e, e]
      have : (kvs.find? fun kv => decide (kv.1 = k)) = none := List.find?_eq_none.mpr fun kv hk q => no kv hk (of_decide_eq_true q)
      rw [this]
      simp
    · rw [if_neg e]
      cases hf : kvs.find? fun kv => decide (kv.1 = j) with
      | some p => rfl
      | none =>
        have : decide (k = j) = false := decide_eq_false fun q => e q.symm
        simp [this]
/-- how often each was met -/
def cnt (kvs : Kvs) (x : Str) : Kvs := dSet kvs (.inr x) (.int (((dVal kvs (.inr x)).map fun d => match d with | .int i => i | _ => 0).getD 0 + 1))
def cntL (L : List Str) : Kvs := L.foldl cnt []
theorem cntL_snoc (L : List Str) (x : Str) : cntL (L ++ [x]) = cnt (cntL L) x := by
  unfold cntL
  rw [List.foldl_append]
  rfl
theorem cntL_val (L : List Str) : ∀ x : Str, dVal (cntL L) (.inr x) = if x ∈ L then some (.int (L.count x)) else none := by
  refine snocRec (P := fun L => ∀ x : Str, dVal (cntL L) (.inr x) = if x ∈ L then some (.int (L.count x)) else none) (fun x => rfl) (fun L y ih x => ?_) L
  · skip
    rw [cntL_snoc]
    unfold cnt
    rw [dVal_set, ih y]
    by_cases e : x = y
    · subst e
      have hx : x ∈ L ++ [x] := List.mem_append_right _ List.mem_cons_self
      rw [if_pos rfl, if_pos hx, List.count_append, List.count_singleton_self]
      by_cases h : x ∈ L
      · rw [if_pos h]; rfl
      · rw [if_neg h, List.count_eq_zero_of_not_mem h]; rfl
    · rw [if_neg fun q => e (Sum.inr.inj q), ih x]
      have : (x ∈ L ++ [y]) ↔ x ∈ L := by simp [e]
      by_cases h : x ∈ L
      · rw [if_pos h, if_pos (this.mpr h), List.count_append, List.count_singleton]
        have : (y == x) = false := beq_eq_false_iff_ne.mpr fun q => e q.symm
        rw [this]
        rfl
      · rw [if_neg h, if_neg fun q => h (this.mp q)]
/-- a dict written from a list -/
def dOf (M : List (Str × D)) : Kvs := M.foldl (fun kvs p => dSet kvs (.inr p.1) p.2) []
theorem dOf_snoc (M : List (Str × D)) (p : Str × D) : dOf (M ++ [p]) = dSet (dOf M) (.inr p.1) p.2 := by
  unfold dOf
  rw [List.foldl_append]
  rfl
theorem dSet_fresh {kvs : Kvs} {k : Key} {d : D} (h : ∀ kv ∈ kvs, kv.1 ≠ k) : dSet kvs k d = kvs ++ [(k, d)] := by
  unfold dSet
  rw [if_neg]
  rw [List.any_eq_true]
  rintro ⟨kv, hk, e⟩
  exact h kv hk (of_decide_eq_true e)
theorem dSet_keys {kvs : Kvs} {k : Key} {d : D} {kv : Key × D} (h : kv ∈ dSet kvs k d) : kv.1 = k ∨ ∃ p ∈ kvs, p.1 = kv.1 := by
  unfold dSet at h
  split at h
  · obtain ⟨p, hp, rfl⟩ := List.mem_map.mp h
    right
    refine ⟨p, hp, ?_⟩
    split <;> rfl
  · rcases List.mem_append.mp h with q | q
    · exact .inr ⟨kv, q, rfl⟩
    · rw [List.mem_singleton.mp q]; exact .inl rfl
theorem dOf_keys {kv : Key × D} (M : List (Str × D)) : kv ∈ dOf M → ∃ p ∈ M, kv.1 = .inr p.1 := by
  refine snocRec (P := fun M => ∀ kv : Key × D, kv ∈ dOf M → ∃ p ∈ M, kv.1 = .inr p.1) (fun kv h => by cases h) (fun M p ih kv h => ?_) M kv
  · skip
    rw [dOf_snoc] at h
    rcases dSet_keys h with e | ⟨q, hq, e⟩
    · exact ⟨p, List.mem_append_right _ List.mem_cons_self, e⟩
    · obtain ⟨r, hr, e2⟩ := ih _ hq
      exact ⟨r, List.mem_append_left _ hr, e ▸ e2⟩
theorem dOf_nodup {M : List (Str × D)} : (M.map (·.1)).Nodup → dOf M = M.map fun p => (.inr p.1, p.2) := by
  refine snocRec (P := fun M => (M.map (·.1)).Nodup → dOf M = M.map fun p => (.inr p.1, p.2)) (fun _ => rfl) (fun M p ih h => ?_) M
  · skip
    rw [List.map_append, List.nodup_append] at h
    rw [dOf_snoc, ih h.1, dSet_fresh, List.map_append]
    · rfl
    · rintro kv hk e
      obtain ⟨q, hq, rfl⟩ := List.mem_map.mp hk
      exact h.2.2 q.1 (List.mem_map.mpr ⟨q, hq, rfl⟩) p.1 (by simp) (Sum.inr.inj e)
/-- of a dict so written: what stands under keys that came once -/
theorem dOf_once (Q : Str → Bool) (M : List (Str × D)) : (∀ x, Q x = true → (M.map (·.1)).count x ≤ 1) → (dOf M).filter (fun kv => match kv.1 with | .inr x => Q x | _ => false) = (M.filter fun p => Q p.1).map fun p => (.inr p.1, p.2) := by
  refine snocRec (P := fun M => (∀ x, Q x = true → (M.map (·.1)).count x ≤ 1) → (dOf M).filter (fun kv => match kv.1 with | .inr x => Q x | _ => false) = (M.filter fun p => Q p.1).map fun p => (.inr p.1, p.2)) (fun _ => rfl) (fun M p ih h => ?_) M
  · skip
    have h' : ∀ x, Q x = true → (M.map (·.1)).count x ≤ 1 := fun x hx => by
      have := h x hx
      rw [List.map_append, List.count_append] at this
      omega
    rw [dOf_snoc, List.filter_append, List.map_append, ← ih h']
    by_cases hq : Q p.1 = true
    · have fresh : ∀ kv ∈ dOf M, kv.1 ≠ .inr p.1 := fun kv hk e => by
        obtain ⟨q, hqm, e2⟩ := dOf_keys M hk
        have e3 : q.1 = p.1 := Sum.inr.inj (e2.symm.trans e)
        have := h p.1 hq
        rw [List.map_append, List.count_append] at this
        have c1 : 1 ≤ (M.map (·.1)).count p.1 := List.one_le_count_iff.mpr (e3 ▸ List.mem_map.mpr ⟨q, hqm, rfl⟩)
        have c2 : ([p].map (·.1)).count p.1 = 1 := List.count_singleton_self
        omega
      rw [dSet_fresh fresh, List.filter_append]
      simp [hq]
    · have e1 : (([p].filter fun p => Q p.1).map fun p => ((.inr p.1 : Key), p.2)) = [] := by simp [hq]
      rw [e1, List.append_nil]
      unfold dSet
      split
      · rw [List.filter_map]
        have : ((fun kv : Key × D => match kv.1 with | .inr x => Q x | _ => false) ∘ fun kv : Key × D => if kv.1 = .inr p.1 then (kv.1, p.2) else kv) = fun kv => match kv.1 with | .inr x => Q x | _ => false := by
          funext kv
          have e : (if kv.1 = .inr p.1 then (kv.1, p.2) else kv).1 = kv.1 := by split <;> rfl
          show (match (if kv.1 = .inr p.1 then (kv.1, p.2) else kv).1 with | .inr x => Q x | _ => false) = _
          rw [e]
        rw [this]
        conv => rhs; rw [← List.map_id ((dOf M).filter _)]
        refine List.map_congr_left fun kv hk => ?_
        have := (List.mem_filter.mp hk).2
        by_cases e : kv.1 = .inr p.1
        · rw [e] at this
          exact absurd this hq
        · rw [if_neg e]; rfl
      · rw [List.filter_append]
        simp [hq]
/-- the sole functions, in the order in which they are met -/
def Tm.sole (t : Tm) : List (Str × Tm) := t.fl.filter fun p => t.bn.count p.1 == 1

/-! ### sizes -/
theorem nodup_le' {α : Type} [DecidableEq α] {l m : List α} (nd : l.Nodup) (h : ∀ z ∈ l, z ∈ m) : l.length ≤ m.length := by
  induction l generalizing m with
  | nil => exact Nat.zero_le _
  | cons x l ih =>
    obtain ⟨n1, n2⟩ := List.nodup_cons.mp nd
    have hx := h x List.mem_cons_self
    have := ih (m := m.erase x) n2 fun z hz => (List.mem_erase_of_ne (fun (q : z = x) => n1 (q ▸ hz))).mpr (h z (List.mem_cons_of_mem _ hz))
    rw [List.length_erase_of_mem hx] at this
    have := List.length_pos_of_mem hx
    rw [List.length_cons]
    omega
theorem dSet_nd {kvs : Kvs} {k : Key} {d : D} (h : (kvs.map (·.1)).Nodup) : ((dSet kvs k d).map (·.1)).Nodup := by
  unfold dSet
  split
  · rw [List.map_map]
    have : ((fun x : Key × D => x.1) ∘ fun kv : Key × D => if kv.1 = k then (kv.1, d) else kv) = fun kv => kv.1 := by
      funext kv
      show (if kv.1 = k then (kv.1, d) else kv).1 = kv.1
      split <;> rfl
    rw [this]
    exact h
  · rename_i no
    rw [List.map_append, List.nodup_append]
    refine ⟨h, by simp, fun a ha b hb e => ?_⟩
    rw [List.mem_singleton.mp hb] at e
    obtain ⟨kv, hk, rfl⟩ := List.mem_map.mp ha
    exact no (List.any_eq_true.mpr ⟨kv, hk, decide_eq_true e⟩)
theorem dOf_nd (M : List (Str × D)) : ((dOf M).map (·.1)).Nodup := by
  refine snocRec (P := fun M => ((dOf M).map (·.1)).Nodup) List.nodup_nil (fun M p ih => ?_) M
  rw [dOf_snoc]
  exact dSet_nd ih
theorem cntL_nd (L : List Str) : ((cntL L).map (·.1)).Nodup := by
  refine snocRec (P := fun L => ((cntL L).map (·.1)).Nodup) List.nodup_nil (fun L p ih => ?_) L
  rw [cntL_snoc]
  exact dSet_nd ih
theorem cntL_keys {kv : Key × D} (L : List Str) : kv ∈ cntL L → ∃ x ∈ L, kv.1 = .inr x := by
  refine snocRec (P := fun L => ∀ kv : Key × D, kv ∈ cntL L → ∃ x ∈ L, kv.1 = .inr x) (fun kv h => by cases h) (fun L p ih kv h => ?_) L kv
  rw [cntL_snoc] at h
  rcases dSet_keys h with e | ⟨q, hq, e⟩
  · exact ⟨p, List.mem_append_right _ List.mem_cons_self, e⟩
  · obtain ⟨r, hr, e2⟩ := ih _ hq
    exact ⟨r, List.mem_append_left _ hr, e ▸ e2⟩
theorem keys_le {pool : List Str} {kvs : Kvs} (nd : (kvs.map (·.1)).Nodup) (h : ∀ kv ∈ kvs, ∃ x ∈ pool, kv.1 = .inr x) : kvs.length ≤ pool.length := by
  have := nodup_le' (m := pool.map fun x => (.inr x : Key)) nd fun z hz => by
    obtain ⟨kv, hk, rfl⟩ := List.mem_map.mp hz
    obtain ⟨x, hx, e⟩ := h kv hk
    exact List.mem_map.mpr ⟨x, hx, e.symm⟩
  rwa [List.length_map, List.length_map] at this
theorem cntL_le {pool L : List Str} (h : ∀ x ∈ L, x ∈ pool) : (cntL L).length ≤ pool.length := keys_le (cntL_nd L) fun kv hk => let ⟨x, hx, e⟩ := cntL_keys L hk; ⟨x, h x hx, e⟩
theorem dOf_le {pool : List Str} {M : List (Str × D)} (h : ∀ p ∈ M, p.1 ∈ pool) : (dOf M).length ≤ pool.length := keys_le (dOf_nd M) fun kv hk => let ⟨p, hp, e⟩ := dOf_keys M hk; ⟨p.1, h p hp, e⟩
theorem cntL_getD (L : List Str) (x : Str) : (dVal (cntL L) (.inr x)).getD (.int 0) = .int (L.count x) := by
  rw [cntL_val]
  split
  · rfl
  · rename_i h
    rw [List.count_eq_zero_of_not_mem h]
    rfl
theorem cnt_eq (L : List Str) (x : Str) : dSet (cntL L) (.inr x) (.int ((L.count x : Int) + 1)) = cntL (L ++ [x]) := by
  rw [cntL_snoc]
  unfold cnt
  rw [cntL_val]
  split
  · rfl
  · rename_i h
    rw [List.count_eq_zero_of_not_mem h]
    rfl
/-! ### within the pool -/
section
variable {pool : List Str}
theorem own_in : ∀ {t : Tm}, t.gd pool → ∀ x ∈ t.own, x ∈ pool
  | .fn y a, g, x, h => by
    have h : x ∈ [y] := h
    rw [List.mem_singleton.mp h]; exact g.1
  | .lets bs a, g, x, h => by
    have h : x ∈ bs.names := h
    rw [Bs.names_l] at h
    obtain ⟨p, hp, rfl⟩ := List.mem_map.mp h
    exact (Bs.gd_mem g.2.1 hp).1
  | .choose a cs, g, x, h => by
    have h : x ∈ cs.l.flatMap (·.2.1) := h
    obtain ⟨p, hp, hx⟩ := List.mem_flatMap.mp h
    exact (Cs.gd_mem g.2.1 hp).1 x hx
  | .num _, _, _, h => by cases h
  | .name _, _, _, h => by cases h
  | .stop _, _, _, h => by cases h
  | .bare _, _, _, h => by cases h
  | .does _ _ _, _, _, h => by cases h
  | .app _ _, _, _, h => by cases h
  | .shape _ _ _, _, _, h => by cases h
  | .first _ _, _, _, h => by cases h
  | .rows _ _, _, _, h => by cases h
theorem pts_gd : ∀ {t : Tm}, t.gd pool → ∀ u ∈ t.pts, u.gd pool
  | .fn y a, g, x, h => by
    have h : x ∈ [a] := h
    rw [List.mem_singleton.mp h]; exact g.2
  | .lets bs a, g, x, h => by
    have h : x ∈ bs.l.map (·.2) ++ [a] := h
    rcases List.mem_append.mp h with h | h
    · obtain ⟨p, hp, rfl⟩ := List.mem_map.mp h
      exact (Bs.gd_mem g.2.1 hp).2.1
    · rw [List.mem_singleton.mp h]; exact g.2.2
  | .choose a cs, g, x, h => by
    have h : x ∈ a :: cs.l.map (·.2.2) := h
    rcases List.mem_cons.mp h with h | h
    · rw [h]; exact g.1
    · obtain ⟨p, hp, rfl⟩ := List.mem_map.mp h
      exact (Cs.gd_mem g.2.1 hp).2.1
  | .num _, _, _, h => by cases h
  | .name _, _, _, h => by cases h
  | .stop _, _, _, h => by cases h
  | .bare _, _, _, h => by cases h
  | .rows _ _, _, _, h => by cases h
  | .does _ a b, g, x, h => by
    have h : x ∈ [a, b] := h
    simp only [List.mem_cons, List.not_mem_nil, or_false] at h
    rcases h with rfl | rfl
    · exact g.1
    · exact g.2
  | .app a b, g, x, h => by
    have h : x ∈ [a, b] := h
    simp only [List.mem_cons, List.not_mem_nil, or_false] at h
    rcases h with rfl | rfl
    · exact g.1
    · exact g.2
  | .shape _ a b, g, x, h => by
    have h : x ∈ [a, b] := h
    simp only [List.mem_cons, List.not_mem_nil, or_false] at h
    rcases h with rfl | rfl
    · exact g.1
    · exact g.2
  | .first a b, g, x, h => by
    have h : x ∈ [a, b] := h
    simp only [List.mem_cons, List.not_mem_nil, or_false] at h
    rcases h with rfl | rfl
    · exact g.1
    · exact g.2
theorem ownF_in : ∀ {t : Tm}, t.gd pool → ∀ p ∈ t.ownF, p.1 ∈ pool ∧ p.2.gd pool ∧ p.2.dp < t.dp ∧ p.2.isFn = true ∧ p.1 ∈ t.own
  | .lets bs a, g, p, h => by
    have h : p ∈ bs.l.filter fun p => p.2.isFn := h
    obtain ⟨h1, h2⟩ := List.mem_filter.mp h
    obtain ⟨g1, g2, g3⟩ := Bs.gd_mem g.2.1 h1
    have e : (Tm.lets bs a).dp = max bs.dp a.dp + 1 := rfl
    exact ⟨g1, g2, by omega, h2, by show p.1 ∈ bs.names; rw [Bs.names_l]; exact List.mem_map.mpr ⟨p, h1, rfl⟩⟩
  | .fn _ _, _, _, h => by cases h
  | .choose _ _, _, _, h => by cases h
  | .num _, _, _, h => by cases h
  | .name _, _, _, h => by cases h
  | .stop _, _, _, h => by cases h
  | .bare _, _, _, h => by cases h
  | .does _ _ _, _, _, h => by cases h
  | .app _ _, _, _, h => by cases h
  | .shape _ _ _, _, _, h => by cases h
  | .first _ _, _, _, h => by cases h
  | .rows _ _, _, _, h => by cases h
theorem bn_in (t : Tm) (g : t.gd pool) : ∀ x ∈ t.bn, x ∈ pool := fun x h => by
  rw [bn_eq] at h
  rcases List.mem_append.mp h with h | h
  · exact own_in g x h
  · obtain ⟨u, hu, hx⟩ := List.mem_flatMap.mp h
    exact bn_in u (pts_gd g u hu) x hx
termination_by t.dp
decreasing_by exact Tm.pts_dp hu
theorem fl_in (t : Tm) (g : t.gd pool) : ∀ p ∈ t.fl, p.1 ∈ pool ∧ p.2.gd pool ∧ p.2.dp < t.dp ∧ p.2.isFn = true := fun p h => by
  rw [fl_eq] at h
  rcases List.mem_append.mp h with h | h
  · obtain ⟨h1, h2, h3, h4, _⟩ := ownF_in g p h
    exact ⟨h1, h2, h3, h4⟩
  · obtain ⟨u, hu, hx⟩ := List.mem_flatMap.mp h
    obtain ⟨h1, h2, h3, h4⟩ := fl_in u (pts_gd g u hu) p hx
    have := Tm.pts_dp hu
    exact ⟨h1, h2, by omega, h4⟩
termination_by t.dp
decreasing_by exact Tm.pts_dp hu
end
/-- a fun that a let binds is met no oftener than its name -/
theorem fl_count (t : Tm) (x : Str) : (t.fl.map (·.1)).count x ≤ t.bn.count x := by
  have own : (t.ownF.map (·.1)).count x ≤ t.own.count x := by
    cases t with
    | lets bs a =>
      show ((bs.l.filter fun p => p.2.isFn).map (·.1)).count x ≤ bs.names.count x
      rw [Bs.names_l]
      exact (List.filter_sublist.map _).count_le x
    | _ => exact Nat.zero_le _
  rw [fl_eq, bn_eq, List.map_append, List.count_append, List.count_append, List.map_flatMap, List.count_flatMap, List.count_flatMap]
  refine Nat.add_le_add own ?_
  have : ∀ l : List Tm, (∀ u ∈ l, u ∈ t.pts) → (l.map (List.count x ∘ fun u => u.fl.map (·.1))).sum ≤ (l.map (List.count x ∘ Tm.bn)).sum := fun l => by
    induction l with
    | nil => exact fun _ => Nat.le_refl _
    | cons u r ih =>
      intro h
      rw [List.map_cons, List.map_cons, List.sum_cons, List.sum_cons]
      have hu := h u List.mem_cons_self
      exact Nat.add_le_add (fl_count u x) (ih fun v hv => h v (List.mem_cons_of_mem _ hv))
  exact this t.pts fun _ h => h
termination_by t.dp
decreasing_by exact Tm.pts_dp hu
theorem sole_nodup (t : Tm) : (t.sole.map (·.1)).Nodup := by
  unfold Tm.sole
  have : ∀ l : List (Str × Tm), (∀ x, (l.map (·.1)).count x ≤ t.bn.count x) → ((l.filter fun p => t.bn.count p.1 == 1).map (·.1)).Nodup := fun l => by
    induction l with
    | nil => exact fun _ => List.nodup_nil
    | cons p r ih =>
      intro h
      have h' : ∀ x, (r.map (·.1)).count x ≤ t.bn.count x := fun x => by
        have := h x
        rw [List.map_cons, List.count_cons] at this
        omega
      by_cases c : (t.bn.count p.1 == 1) = true
      · rw [List.filter_cons, if_pos c, List.map_cons, List.nodup_cons]
        refine ⟨fun hm => ?_, ih h'⟩
        obtain ⟨q, hq, e⟩ := List.mem_map.mp hm
        have hq' := (List.mem_filter.mp hq).1
        have := h p.1
        rw [List.map_cons, List.count_cons_self] at this
        have c1 : 1 ≤ (r.map (·.1)).count p.1 := List.one_le_count_iff.mpr (e ▸ List.mem_map.mpr ⟨q, hq', rfl⟩)
        have c2 := eq_of_beq c
        omega
      · rw [List.filter_cons, if_neg c]
        exact ih h'
  exact this t.fl (fl_count t)
theorem sole_in {pool : List Str} {t : Tm} (g : t.gd pool) : ∀ p ∈ t.sole, p.1 ∈ pool ∧ p.2.gd pool ∧ p.2.dp < t.dp ∧ p.2.isFn = true := fun p h => fl_in t g p (List.mem_filter.mp h).1
end VL
/-! VL49: a measure that bounds how many funs a term's lets bind. -/
namespace VL
open PySem L2
mutual
def Tm.m2 : Tm → Nat
  | .num _ => 0
  | .name _ => 0
  | .stop _ => 0
  | .bare _ => 0
  | .does _ a b => max a.m2 b.m2 + 1
  | .fn _ a => a.m2
  | .app a b => max a.m2 b.m2 + 1
  | .lets bs a => max bs.m2 a.m2 + (Nat.log2 (bs.names.length + 1) + 1)
  | .shape _ a b => max a.m2 b.m2 + 1
  | .choose a cs => max a.m2 cs.m2 + 2
  | .first a b => max a.m2 b.m2 + 1
  | .rows _ _ => 0
def Bs.m2 : Bs → Nat
  | .nil => 0
  | .cons _ t r => max t.m2 r.m2
def Cs.m2 : Cs → Nat
  | .nil => 0
  | .cons _ _ t r => max t.m2 r.m2
end
theorem bs_mem_m2 : ∀ {b : Bs} {p : Str × Tm}, p ∈ b.l → p.2.m2 ≤ b.m2
  | .nil, p, h => by cases (show p ∈ ([] : List (Str × Tm)) from h)
  | .cons x t r, p, h => by
    rcases List.mem_cons.mp (show p ∈ (x, t) :: r.l from h) with e | e
    · rw [e]; exact Nat.le_max_left ..
    · exact Nat.le_trans (bs_mem_m2 e) (Nat.le_max_right ..)
theorem cs_mem_m2 : ∀ {b : Cs} {p : Str × List Str × Tm}, p ∈ b.l → p.2.2.m2 ≤ b.m2
  | .nil, p, h => by cases (show p ∈ ([] : List (Str × List Str × Tm)) from h)
  | .cons s ws t r, p, h => by
    rcases List.mem_cons.mp (show p ∈ (s, ws, t) :: r.l from h) with e | e
    · rw [e]; exact Nat.le_max_left ..
    · exact Nat.le_trans (cs_mem_m2 e) (Nat.le_max_right ..)
/-- many lists of at most so many -/
theorem flat_le {α : Type} (l : List Tm) (f : Tm → List α) (k : Nat) (h : ∀ u ∈ l, (f u).length + 1 ≤ 2 ^ k) : (l.flatMap f).length + l.length ≤ l.length * 2 ^ k := by
  induction l with
  | nil => simp
  | cons u r ih =>
    rw [List.flatMap_cons, List.length_append, List.length_cons, Nat.add_one_mul]
    have := h u List.mem_cons_self
    have := ih fun v hv => h v (List.mem_cons_of_mem _ hv)
    omega
theorem pow_up {a b : Nat} (h : a ≤ b) : 2 ^ a ≤ 2 ^ b := Nat.pow_le_pow_right (by decide) h
theorem fl_m2 {pool : List Str} (t : Tm) (g : t.gd pool) : t.fl.length + 1 ≤ 2 ^ t.m2 := by
  have ih : ∀ u ∈ t.pts, u.fl.length + 1 ≤ 2 ^ u.m2 := fun u hu => fl_m2 u (pts_gd g u hu)
  have two : ∀ a b : Tm, t.pts = [a, b] → t.ownF = [] → t.m2 = max a.m2 b.m2 + 1 → t.fl.length + 1 ≤ 2 ^ t.m2 := fun a b hp ho hm => by
    have ha := ih a (by rw [hp]; simp)
    have hb := ih b (by rw [hp]; simp)
    rw [fl_eq, hp, ho, hm, Nat.pow_succ]
    have h1 := pow_up (Nat.le_max_left a.m2 b.m2)
    have h2 := pow_up (Nat.le_max_right a.m2 b.m2)
    simp
    omega
  have none' : t.pts = [] → t.ownF = [] → t.fl.length + 1 ≤ 2 ^ t.m2 := fun hp ho => by
    rw [fl_eq, hp, ho]
    exact Nat.one_le_two_pow
  cases t with
  | num _ => exact none' rfl rfl
  | name _ => exact none' rfl rfl
  | stop _ => exact none' rfl rfl
  | bare _ => exact none' rfl rfl
  | rows _ _ => exact none' rfl rfl
  | does o a b => exact two a b rfl rfl rfl
  | app a b => exact two a b rfl rfl rfl
  | shape s a b => exact two a b rfl rfl rfl
  | first a b => exact two a b rfl rfl rfl
  | fn x a =>
    have ha := ih a (show a ∈ [a] by simp)
    rw [fl_eq, show (Tm.fn x a).pts = [a] from rfl, show (Tm.fn x a).ownF = [] from rfl]
    show _ ≤ 2 ^ a.m2
    simpa using ha
  | lets bs a =>
    have hm : (Tm.lets bs a).m2 = max bs.m2 a.m2 + (Nat.log2 (bs.names.length + 1) + 1) := rfl
    have ho : (Tm.lets bs a).ownF.length ≤ bs.l.length := List.length_filter_le ..
    have hl : (Tm.lets bs a).pts.length = bs.l.length + 1 := by
      show (bs.l.map (·.2) ++ [a]).length = _
      rw [List.length_append, List.length_map]
      rfl
    have bl : bs.l.length = bs.names.length := by rw [Bs.names_l, List.length_map]
    have h1 := flat_le (Tm.lets bs a).pts Tm.fl (max bs.m2 a.m2) fun u hu => Nat.le_trans (ih u hu) (pow_up (by
      rcases List.mem_append.mp (show u ∈ bs.l.map (·.2) ++ [a] from hu) with q | q
      · obtain ⟨p, hp, rfl⟩ := List.mem_map.mp q
        exact Nat.le_trans (bs_mem_m2 hp) (Nat.le_max_left ..)
      · rw [List.mem_singleton.mp q]
        exact Nat.le_max_right ..))
    rw [hl] at h1
    rw [fl_eq, List.length_append, hm, Nat.pow_add]
    have h2 : bs.l.length + 1 ≤ 2 ^ (Nat.log2 (bs.names.length + 1) + 1) := by
      rw [bl]
      exact Nat.le_of_lt Nat.lt_log2_self
    have h3 := Nat.mul_le_mul_right (2 ^ max bs.m2 a.m2) h2
    rw [Nat.mul_comm (2 ^ max bs.m2 a.m2)]
    omega
  | choose a cs =>
    have c2 := g.2.2.1
    have hm : (Tm.choose a cs).m2 = max a.m2 cs.m2 + 2 := rfl
    have hl : (Tm.choose a cs).pts.length = cs.l.length + 1 := by
      show (a :: cs.l.map (·.2.2)).length = _
      rw [List.length_cons, List.length_map]
    have h1 := flat_le (Tm.choose a cs).pts Tm.fl (max a.m2 cs.m2) fun u hu => Nat.le_trans (ih u hu) (pow_up (by
      rcases List.mem_cons.mp (show u ∈ a :: cs.l.map (·.2.2) from hu) with q | q
      · rw [q]; exact Nat.le_max_left ..
      · obtain ⟨p, hp, rfl⟩ := List.mem_map.mp q
        exact Nat.le_trans (cs_mem_m2 hp) (Nat.le_max_right ..)))
    rw [hl] at h1
    rw [fl_eq, List.length_append, show (Tm.choose a cs).ownF = [] from rfl, hm, Nat.pow_add]
    have h3 : (cs.l.length + 1) * 2 ^ max a.m2 cs.m2 ≤ 2 ^ 2 * 2 ^ max a.m2 cs.m2 := Nat.mul_le_mul_right _ (by omega)
    rw [Nat.mul_comm (2 ^ max a.m2 cs.m2)]
    simp only [List.length_nil]
    omega
termination_by t.dp
decreasing_by exact Tm.pts_dp hu
theorem log_5 {n : Nat} (h : n ≤ 5) : Nat.log2 (n + 1) ≤ 2 := by
  have : Nat.log2 (n + 1) < 3 := (Nat.log2_lt (by omega)).mpr (by omega)
  omega
end VL
/-! VL50: the dict of the funs that lets bind; dicts that are alike. -/
namespace VL
open PySem L2
def setT (kvs : List (Str × Tm)) (p : Str × Tm) : List (Str × Tm) := if (kvs.any fun kv => decide (kv.1 = p.1)) = true then kvs.map (fun kv => if kv.1 = p.1 then (kv.1, p.2) else kv) else kvs ++ [p]
def dT (M : List (Str × Tm)) : List (Str × Tm) := M.foldl setT []
def gD (p : Str × Tm) : Key × D := (.inr p.1, p.2.d)
theorem setT_d (kvs : List (Str × Tm)) (p : Str × Tm) : dSet (kvs.map gD) (.inr p.1) p.2.d = (setT kvs p).map gD := by
  unfold dSet setT
  have e : ((kvs.map gD).any fun kv => decide (kv.1 = .inr p.1)) = kvs.any fun kv => decide (kv.1 = p.1) := by
    rw [List.any_map]
    congr 1
    funext kv
    show decide ((Sum.inr kv.1 : Key) = .inr p.1) = _
    simp
  rw [e]
  split
  · rw [List.map_map, List.map_map]
    refine List.map_congr_left fun kv _ => ?_
    show (if (Sum.inr kv.1 : Key) = .inr p.1 then _ else _) = gD (if kv.1 = p.1 then (kv.1, p.2) else kv)
    by_cases h : kv.1 = p.1
    · rw [if_pos h, if_pos (congrArg Sum.inr h)]
      rfl
    · rw [if_neg h, if_neg fun q => h (Sum.inr.inj q)]
  · rw [List.map_append]
    rfl
theorem dT_snoc (M : List (Str × Tm)) (p : Str × Tm) : dT (M ++ [p]) = setT (dT M) p := by
  unfold dT
  rw [List.foldl_append]
  rfl
theorem dT_d (M : List (Str × Tm)) : dOf (M.map fun p => (p.1, p.2.d)) = (dT M).map gD := by
  refine snocRec (P := fun M => dOf (M.map fun p => (p.1, p.2.d)) = (dT M).map gD) rfl (fun M p ih => ?_) M
  rw [List.map_append, dT_snoc, ← setT_d, ← ih]
  exact dOf_snoc _ _
theorem setT_mem {kvs : List (Str × Tm)} {p q : Str × Tm} (h : q ∈ setT kvs p) : (q.1 = p.1 ∧ q.2 = p.2) ∨ q ∈ kvs := by
  unfold setT at h
  split at h
  · obtain ⟨kv, hk, rfl⟩ := List.mem_map.mp h
    by_cases e : kv.1 = p.1
    · rw [if_pos e]; exact .inl ⟨e, rfl⟩
    · rw [if_neg e]; exact .inr hk
  · rcases List.mem_append.mp h with q | q
    · exact .inr q
    · rw [List.mem_singleton.mp q]; exact .inl ⟨rfl, rfl⟩
theorem dT_mem {q : Str × Tm} (M : List (Str × Tm)) : q ∈ dT M → q ∈ M := by
  refine snocRec (P := fun M => ∀ q : Str × Tm, q ∈ dT M → q ∈ M) (fun q h => by cases h) (fun M p ih q h => ?_) M q
  rw [dT_snoc] at h
  rcases setT_mem h with e | e
  · exact List.mem_append_right _ (List.mem_singleton.mpr (Prod.ext e.1 e.2))
  · exact List.mem_append_left _ (ih q e)
theorem dT_nd (M : List (Str × Tm)) : ((dT M).map (·.1)).Nodup := by
  have := dOf_nd (M.map fun p => (p.1, p.2.d))
  rw [dT_d, List.map_map] at this
  have e : ((fun x : Key × D => x.1) ∘ gD) = (fun x : Str => (.inr x : Key)) ∘ fun p : Str × Tm => p.1 := rfl
  rw [e, ← List.map_map] at this
  exact List.Pairwise.of_map (fun x : Str => (.inr x : Key)) (fun a b h q => h (congrArg _ q)) this
theorem dT_once (Q : Str → Bool) (M : List (Str × Tm)) : (∀ x, Q x = true → (M.map (·.1)).count x ≤ 1) → (dT M).filter (fun p => Q p.1) = M.filter fun p => Q p.1 := by
  refine snocRec (P := fun M => (∀ x, Q x = true → (M.map (·.1)).count x ≤ 1) → (dT M).filter (fun p => Q p.1) = M.filter fun p => Q p.1) (fun _ => rfl) (fun M p ih h => ?_) M
  have h' : ∀ x, Q x = true → (M.map (·.1)).count x ≤ 1 := fun x hx => by
    have := h x hx
    rw [List.map_append, List.count_append] at this
    omega
  rw [dT_snoc, List.filter_append, ← ih h']
  unfold setT
  by_cases hq : Q p.1 = true
  · have fresh : ¬ ((dT M).any fun kv => decide (kv.1 = p.1)) = true := by
      rw [List.any_eq_true]
      rintro ⟨kv, hk, e⟩
      have e3 : kv.1 = p.1 := of_decide_eq_true e
      have := h p.1 hq
      rw [List.map_append, List.count_append] at this
      have c1 : 1 ≤ (M.map (·.1)).count p.1 := List.one_le_count_iff.mpr (e3 ▸ List.mem_map.mpr ⟨kv, dT_mem M hk, rfl⟩)
      have c2 : ([p].map (·.1)).count p.1 = 1 := List.count_singleton_self
      omega
    rw [if_neg fresh, List.filter_append]
  · have e1 : ([p].filter fun p => Q p.1) = [] := by simp [hq]
    rw [e1, List.append_nil]
    split
    · rw [List.filter_map]
      have : ((fun kv : Str × Tm => Q kv.1) ∘ fun kv : Str × Tm => if kv.1 = p.1 then (kv.1, p.2) else kv) = fun kv => Q kv.1 := by
        funext kv
        show Q (if kv.1 = p.1 then (kv.1, p.2) else kv).1 = _
        split <;> rfl
      rw [this]
      conv => rhs; rw [← List.map_id ((dT M).filter _)]
      refine List.map_congr_left fun kv hk => ?_
      have := (List.mem_filter.mp hk).2
      by_cases e : kv.1 = p.1
      · rw [e] at this
        exact absurd this hq
      · rw [if_neg e]; rfl
    · rw [List.filter_append, e1, List.append_nil]
theorem sole_dT (t : Tm) : (dT t.fl).filter (fun p => t.bn.count p.1 == 1) = t.sole :=
  dT_once (fun x => t.bn.count x == 1) t.fl fun x hx => by
    have := fl_count t x
    have := eq_of_beq hx
    omega
theorem fl_bn {t : Tm} {p : Str × Tm} (h : p ∈ t.fl) : p.1 ∈ t.bn := by
  have c1 : 1 ≤ (t.fl.map (·.1)).count p.1 := List.one_le_count_iff.mpr (List.mem_map.mpr ⟨p, h, rfl⟩)
  have := fl_count t p.1
  exact List.one_le_count_iff.mp (by omega)
/-! ### dicts -/
theorem dVal_mem' {kvs : Kvs} (nd : (kvs.map (·.1)).Nodup) {k : Key} {d : D} (h : (k, d) ∈ kvs) : dVal kvs k = some d := by
  unfold dVal
  induction kvs with
  | nil => cases h
  | cons q r ih =>
    rw [List.map_cons, List.nodup_cons] at nd
    rw [List.find?_cons]
    rcases List.mem_cons.mp h with e | e
    · rw [← e]
      simp
    · have ne : decide (q.1 = k) = false := decide_eq_false fun e' => nd.1 (e' ▸ List.mem_map.mpr ⟨(k, d), e, rfl⟩)
      rw [ne]
      exact ih nd.2 e
theorem flatOk_sm {n : Nat} {d : D} (h : Sm n d) (hn : n ≤ 150) : D.flatOk d d = true := by
  have pl := plain_imm _ h.imm
  unfold D.flatOk
  rw [pl, Bool.true_and, Bool.true_and, decide_eq_true_iff, Nat.min_self]
  exact Nat.le_trans h.dep hn
theorem dHits_self {n : Nat} {kvs : Kvs} (nd : (kvs.map (·.1)).Nodup) (hs : ∀ kv ∈ kvs, Sm n kv.2) (hn : n ≤ 150) : dHits kvs kvs = some true := by
  have key : ∀ T : Kvs, (∀ p ∈ T, p ∈ kvs) → dHits kvs T = some true := fun T => by
    induction T with
    | nil => exact fun _ => rfl
    | cons p r ih =>
      intro h
      obtain ⟨k, d⟩ := p
      have hm := h (k, d) List.mem_cons_self
      have sm := hs (k, d) hm
      show (match dVal kvs k with
        | none => some false
        | some e => if D.flatOk d e = true then (dHits kvs r).map (D.eqv d e && ·) else none) = some true
      rw [dVal_mem' nd hm]
      show (if D.flatOk d d = true then _ else none) = some true
      rw [if_pos (flatOk_sm sm hn), ih fun q hq => h q (List.mem_cons_of_mem _ hq)]
      show some (D.eqv d d && true) = some true
      rw [eqv_refl d (plain_imm _ sm.imm)]
      rfl
  exact key kvs fun _ h => h
theorem dNeD_self {n : Nat} {kvs : Kvs} (nd : (kvs.map (·.1)).Nodup) (hs : ∀ kv ∈ kvs, Sm n kv.2) (hn : n ≤ 150) : dNeD (.dic kvs) (.dic kvs) = some (.bl false) := by
  rw [dNeD_r, dHits_self nd hs hn]
  simp
theorem dEqD_self {n : Nat} {kvs : Kvs} (nd : (kvs.map (·.1)).Nodup) (hs : ∀ kv ∈ kvs, Sm n kv.2) (hn : n ≤ 150) : dEqD (.dic kvs) (.dic kvs) = some (.bl true) := by
  rw [dEqD_r, dHits_self nd hs hn]
  simp
theorem dSet_last {kvs : Kvs} {k : Key} {d e : D} (h : ∀ kv ∈ kvs, kv.1 ≠ k) : dSet (kvs ++ [(k, d)]) k e = kvs ++ [(k, e)] := by
  unfold dSet
  rw [if_pos (by simp), List.map_append]
  congr 1
  · conv => rhs; rw [← List.map_id kvs]
    exact List.map_congr_left fun kv hk => if_neg (h kv hk)
  · simp
theorem dVal_last {kvs : Kvs} {k : Key} {d : D} (h : ∀ kv ∈ kvs, kv.1 ≠ k) : dVal (kvs ++ [(k, d)]) k = some d := by
  unfold dVal
  rw [List.find?_append]
  have : (kvs.find? fun kv => decide (kv.1 = k)) = none := List.find?_eq_none.mpr fun kv hk q => h kv hk (of_decide_eq_true q)
  rw [this]
  simp
theorem fs_inr {α : Type} {l : List α} {f : α → Str} (h : (l.map f).Nodup) (g : α → D) : ((l.map fun p => ((.inr (f p) : Key), g p)).map (·.1)).Nodup := by
  rw [List.map_map]
  have e : ((fun x : Key × D => x.1) ∘ fun p : α => ((.inr (f p) : Key), g p)) = (fun x : Str => (.inr x : Key)) ∘ f := rfl
  rw [e, ← List.map_map]
  exact List.Pairwise.map _ (fun a b h q => h (Sum.inr.inj q)) h
end VL
namespace Law
open PySem L2 VL
/-! the text -/
def topS (i : Nat) : Stmt := PySem.Challenge.pw_idlegraph_k63_sole_functions.main.body.getD i (.Pass ⟨0, 0, 0, 0⟩)
abbrev s_row_of : Stmt := topS 1
abbrev s_parts : Stmt := topS 3
abbrev s_bound_by : Stmt := topS 5
abbrev s_look_through : Stmt := topS 6
abbrev s_sole_rows : Stmt := topS 7
abbrev s_sole : Stmt := topS 8
abbrev s__law_next : Stmt := topS 10
abbrev s__law_state : Stmt := topS 11
abbrev s__law_pool : Stmt := topS 12
abbrev s__law_leaf : Stmt := topS 13
abbrev s__law_choose : Stmt := topS 14
abbrev s__law_funs : Stmt := topS 15
abbrev s__law_let : Stmt := topS 16
abbrev s__law_call : Stmt := topS 17
abbrev s__law_any : Stmt := topS 18
abbrev s__law_parts : Stmt := topS 19
abbrev s__law_look : Stmt := topS 20
abbrev s__law_closed_term : Stmt := topS 21
abbrev s__law_due : Stmt := topS 22
abbrev s__law_alike : Stmt := topS 23
abbrev s_law : Stmt := topS 24
theorem sc_row_of : FnScope ["term", "names"] ["term"] (defScope s_row_of) := ⟨rfl, rfl, rfl, by decide +kernel, rfl, by decide +kernel, by decide +kernel⟩
theorem sc_parts : FnScope ["term", "sort", "pair", "one", "step"] ["term"] (defScope s_parts) := ⟨rfl, rfl, rfl, by decide +kernel, rfl, by decide +kernel, by decide +kernel⟩
theorem sc_bound_by : FnScope ["term", "names", "one", "pair"] ["term"] (defScope s_bound_by) := ⟨rfl, rfl, rfl, by decide +kernel, rfl, by decide +kernel, by decide +kernel⟩
theorem sc_look_through : FnScope ["term", "seen", "funs", "name", "one", "part"] ["term", "seen", "funs"] (defScope s_look_through) := ⟨rfl, rfl, rfl, by decide +kernel, rfl, by decide +kernel, by decide +kernel⟩
theorem sc_sole_rows : FnScope ["term", "seen", "funs", "found", "name", "fun"] ["term"] (defScope s_sole_rows) := ⟨rfl, rfl, rfl, by decide +kernel, rfl, by decide +kernel, by decide +kernel⟩
theorem sc_sole : FnScope ["term", "found", "name", "row"] ["term"] (defScope s_sole) := ⟨rfl, rfl, rfl, by decide +kernel, rfl, by decide +kernel, by decide +kernel⟩
theorem sc__law_next : FnScope ["_law_state_here", "_law_at", "_law_number"] ["_law_state_here"] (defScope s__law_next) := ⟨rfl, rfl, rfl, by decide +kernel, rfl, by decide +kernel, by decide +kernel⟩
theorem sc__law_state : FnScope ["_law_script", "_law_left", "_law_seed", "_law_cell"] ["_law_script", "_law_left"] (defScope s__law_state) := ⟨rfl, rfl, rfl, by decide +kernel, rfl, by decide +kernel, by decide +kernel⟩
theorem sc__law_pool : FnScope ["_law_cell", "_law_many", "_law_signs", "_law_wide", "_law_at", "_law_pool_here", "_law_k", "_law_name", "_law_j"] ["_law_cell", "_law_many"] (defScope s__law_pool) := ⟨rfl, rfl, rfl, by decide +kernel, rfl, by decide +kernel, by decide +kernel⟩
theorem sc__law_leaf : FnScope ["_law_cell", "_law_pool_here", "_law_scope", "_law_some"] ["_law_cell", "_law_pool_here", "_law_scope"] (defScope s__law_leaf) := ⟨rfl, rfl, rfl, by decide +kernel, rfl, by decide +kernel, by decide +kernel⟩
theorem sc__law_choose : FnScope ["_law_state_here", "_law_pool_here", "_law_scope", "_law_known", "_law_fuel", "_law_cell", "_law_asked", "_law_one", "_law_head", "_law_names", "_law_inner"] ["_law_state_here", "_law_pool_here", "_law_scope", "_law_known", "_law_fuel"] (defScope s__law_choose) := ⟨rfl, rfl, rfl, by decide +kernel, rfl, by decide +kernel, by decide +kernel⟩
theorem sc__law_funs : FnScope ["_law_state_here", "_law_pool_here", "_law_scope", "_law_known", "_law_fuel", "_law_cell", "_law_names", "_law_found", "_law_name", "_law_k"] ["_law_state_here", "_law_pool_here", "_law_scope", "_law_known", "_law_fuel"] (defScope s__law_funs) := ⟨rfl, rfl, rfl, by decide +kernel, rfl, by decide +kernel, by decide +kernel⟩
theorem sc__law_let : FnScope ["_law_state_here", "_law_pool_here", "_law_scope", "_law_known", "_law_fuel", "_law_cell", "_law_many", "_law_names", "_law_funs_here", "_law_inner", "_law_pairs", "_law_name", "_law_k"] ["_law_state_here", "_law_pool_here", "_law_scope", "_law_known", "_law_fuel"] (defScope s__law_let) := ⟨rfl, rfl, rfl, by decide +kernel, rfl, by decide +kernel, by decide +kernel⟩
theorem sc__law_call : FnScope ["_law_state_here", "_law_pool_here", "_law_scope", "_law_known", "_law_fuel", "_law_cell", "_law_found", "_law_many", "_law_k"] ["_law_state_here", "_law_pool_here", "_law_scope", "_law_known", "_law_fuel"] (defScope s__law_call) := ⟨rfl, rfl, rfl, by decide +kernel, rfl, by decide +kernel, by decide +kernel⟩
theorem sc__law_any : FnScope ["_law_state_here", "_law_pool_here", "_law_scope", "_law_known", "_law_fuel", "_law_cell", "_law_way", "_law_one", "_law_other"] ["_law_state_here", "_law_pool_here", "_law_scope", "_law_known", "_law_fuel"] (defScope s__law_any) := ⟨rfl, rfl, rfl, by decide +kernel, rfl, by decide +kernel, by decide +kernel⟩
theorem sc__law_parts : FnScope ["_law_term", "_law_pair", "_law_one"] ["_law_term"] (defScope s__law_parts) := ⟨rfl, rfl, rfl, by decide +kernel, rfl, by decide +kernel, by decide +kernel⟩
theorem sc__law_look : FnScope ["_law_term", "_law_seen", "_law_funs_here", "_law_names", "_law_one", "_law_name", "_law_part"] ["_law_term", "_law_seen", "_law_funs_here"] (defScope s__law_look) := ⟨rfl, rfl, rfl, by decide +kernel, rfl, by decide +kernel, by decide +kernel⟩
theorem sc__law_closed_term : FnScope ["_law_state_here", "_law_pool_here", "_law_fuel", "_law_cell"] ["_law_state_here", "_law_pool_here", "_law_fuel"] (defScope s__law_closed_term) := ⟨rfl, rfl, rfl, by decide +kernel, rfl, by decide +kernel, by decide +kernel⟩
theorem sc__law_due : FnScope ["_law_term", "_law_seen", "_law_funs_here", "_law_due_here", "_law_name", "_law_one"] ["_law_term"] (defScope s__law_due) := ⟨rfl, rfl, rfl, by decide +kernel, rfl, by decide +kernel, by decide +kernel⟩
theorem sc__law_alike : FnScope ["_law_found", "_law_due_here", "_law_name", "_law_many"] ["_law_found", "_law_due_here"] (defScope s__law_alike) := ⟨rfl, rfl, rfl, by decide +kernel, rfl, by decide +kernel, by decide +kernel⟩
theorem sc_law : FnScope ["_law_script", "_law_state_here", "_law_cell", "_law_pool_here", "_law_term", "_law_other", "_law_found"] ["_law_script"] (defScope s_law) := ⟨rfl, rfl, rfl, by decide +kernel, rfl, by decide +kernel, by decide +kernel⟩
/-! the mirror -/
inductive Fid where
  | row_of | parts | bound_by | look_through | sole_rows | sole | _law_next | _law_state | _law_pool | _law_leaf | _law_choose | _law_funs | _law_let | _law_call | _law_any | _law_parts | _law_look | _law_closed_term | _law_due | _law_alike | law
def b_row_of (C : Fid → List D → R D) : SM := sSeq (sSet 1 (eLst (eNil))) (sSeq (sWhile (eT (eBin dEq (.v .im) (eBin dIx (.v .im) (eVar 0) (.v .im) (eC (.int 0))) (.v .im) (eC (.str "fun")))) (sSeq (sDo (eMeth fApp 1 (eCons (eBin dIx (.v .im) (eVar 0) (.v .im) (eC (.int 1))) eNil))) (sSet 0 (eBin dIx (.v .im) (eVar 0) (.v .im) (eC (.int 2))))) 100000) (sRet (eTup (eCons (eVar 1) (eCons (eVar 0) (eNil))))))
def b_parts (C : Fid → List D → R D) : SM := sSeq (sSet 1 (eBin dIx (.v .im) (eVar 0) (.v .im) (eC (.int 0)))) (sSeq (sIf (eT (eBin dEq (.v .im) (eVar 1) (.v .im) (eC (.str "does")))) (sRet (eLst (eCons (eBin dIx (.v .im) (eVar 0) (.v .im) (eC (.int 2))) (eCons (eBin dIx (.v .im) (eVar 0) (.v .im) (eC (.int 3))) (eNil))))) (sNx)) (sSeq (sIf (eT (eBin dEq (.v .im) (eVar 1) (.v .im) (eC (.str "fun")))) (sRet (eLst (eCons (eBin dIx (.v .im) (eVar 0) (.v .im) (eC (.int 2))) (eNil)))) (sNx)) (sSeq (sIf (eOrT (eT (eBin dEq (.v .im) (eVar 1) (.v .im) (eC (.str "call")))) (eT (eBin dEq (.v .im) (eVar 1) (.v .im) (eC (.str "first"))))) (sRet (eLst (eCons (eBin dIx (.v .im) (eVar 0) (.v .im) (eC (.int 1))) (eCons (eBin dIx (.v .im) (eVar 0) (.v .im) (eC (.int 2))) (eNil))))) (sNx)) (sSeq (sIf (eT (eBin dEq (.v .im) (eVar 1) (.v .im) (eC (.str "let")))) (sRet (eBinN fCat (.v (.L .im)) (eLc (eItE (eBin dIx (.v .im) (eVar 0) (.v .im) (eC (.int 1)))) (.nm 2) (eYes) (eBin dIx (.v .im) (eVar 2) (.v .im) (eC (.int 1)))) (.v (.L .im)) (eLst (eCons (eBin dIx (.v .im) (eVar 0) (.v .im) (eC (.int 2))) (eNil))))) (sNx)) (sSeq (sIf (eT (eBin dEq (.v .im) (eVar 1) (.v .im) (eC (.str "shape")))) (sRet (eCN fSeq [.v .im] (eCons (eBin dIx (.v .im) (eVar 0) (.v .im) (eC (.int 2))) (eNil)))) (sNx)) (sSeq (sIf (eT (eBin dEq (.v .im) (eVar 1) (.v .im) (eC (.str "choose")))) (sRet (eBinN fCat (.v (.L .im)) (eLst (eCons (eBin dIx (.v .im) (eVar 0) (.v .im) (eC (.int 1))) (eNil))) (.v (.L .im)) (eLc (eItE (eBin dIx (.v .im) (eVar 0) (.v .im) (eC (.int 2)))) (.nm 3) (eYes) (eBin dIx (.v .im) (eVar 3) (.v .im) (eC (.int 2)))))) (sNx)) (sSeq (sIf (eT (eBin dEq (.v .im) (eVar 1) (.v .im) (eC (.str "rows")))) (sRet (eBinN fCat (.v (.L .im)) (eLst (eCons (eBin dIx (.v .im) (eVar 0) (.v .im) (eC (.int 1))) (eNil))) (.v (.L .im)) (eLc (eItE (eBin dIx (.v .im) (eVar 0) (.v .im) (eC (.int 2)))) (.nm 4) (eYes) (eBin dIx (.v .im) (eVar 4) (.v .im) (eUn dNeg (.v .im) (eC (.int 1))))))) (sNx)) (sRet (eLst (eNil))))))))))
def b_bound_by (C : Fid → List D → R D) : SM := sSeq (sIf (eT (eBin dEq (.v .im) (eBin dIx (.v .im) (eVar 0) (.v .im) (eC (.int 0))) (.v .im) (eC (.str "fun")))) (sRet (eLst (eCons (eBin dIx (.v .im) (eVar 0) (.v .im) (eC (.int 1))) (eNil)))) (sNx)) (sSeq (sIf (eT (eBin dEq (.v .im) (eBin dIx (.v .im) (eVar 0) (.v .im) (eC (.int 0))) (.v .im) (eC (.str "let")))) (sRet (eLc (eItE (eBin dIx (.v .im) (eVar 0) (.v .im) (eC (.int 1)))) (.nm 3) (eYes) (eBin dIx (.v .im) (eVar 3) (.v .im) (eC (.int 0))))) (sNx)) (sSeq (sSet 1 (eLst (eNil))) (sSeq (sIf (eT (eBin dEq (.v .im) (eBin dIx (.v .im) (eVar 0) (.v .im) (eC (.int 0))) (.v .im) (eC (.str "choose")))) (sFor (eItE (eBin dIx (.v .im) (eVar 0) (.v .im) (eC (.int 2)))) (.nm 2) (sDo (eMeth fExt 1 (eCons (eBin dIx (.v .im) (eVar 2) (.v .im) (eC (.int 1))) eNil)))) (sNx)) (sRet (eVar 1)))))
def b_look_through (C : Fid → List D → R D) : SM := sSeq (sFor (eItL (eCall (C .bound_by) [.v .im] [] (eCons (eVar 0) (eNil)))) (.nm 3) (sPutD 1 (eVar 3) (eBin dAdd (.v .im) (eDGet2 (.s 1) (eSl) (eVar 3) (eC (.int 0))) (.v .im) (eC (.int 1))))) (sSeq (sIf (eT (eBin dEq (.v .im) (eBin dIx (.v .im) (eVar 0) (.v .im) (eC (.int 0))) (.v .im) (eC (.str "let")))) (sFor (eItE (eBin dIx (.v .im) (eVar 0) (.v .im) (eC (.int 1)))) (.pr [.nm 3, .nm 4]) (sIf (eT (eBin dEq (.v .im) (eBin dIx (.v .im) (eVar 4) (.v .im) (eC (.int 0))) (.v .im) (eC (.str "fun")))) (sPutD 2 (eVar 3) (eVar 4)) (sNx))) (sNx)) (sFor (eItL (eCall (C .parts) [.v .im] [] (eCons (eVar 0) (eNil)))) (.nm 5) (sDo (eCall (C .look_through) [.v .im, .o 1, .o 2] [] (eCons (eVar 5) (eCons eSl (eCons eSl (eNil))))))))
def b_sole_rows (C : Fid → List D → R D) : SM := sSeq (sSet 1 (eDic0)) (sSeq (sSet 2 (eDic0)) (sSeq (sDo (eCall (C .look_through) [.v .im, .o 1, .o 2] [] (eCons (eVar 0) (eCons eSl (eCons eSl (eNil)))))) (sSeq (sSet 3 (eDic0)) (sSeq (sFor (eItD itemsD 2) (.pr [.nm 4, .nm 5]) (sIf (eT (eBin dEq (.v .im) (eBin dGet (.v (.M .im)) (eVar 1) (.v .im) (eVar 4)) (.v .im) (eC (.int 1)))) (sPutD 3 (eVar 4) (eCall (C .row_of) [.v .im] [] (eCons (eVar 5) (eNil)))) (sNx))) (sRet (eVar 3))))))
def b_sole (C : Fid → List D → R D) : SM := sSeq (sSet 1 (eDic0)) (sSeq (sFor (eItN itemsD (eCall (C .sole_rows) [.v .im] [] (eCons (eVar 0) (eNil)))) (.pr [.nm 2, .nm 3]) (sPutD 1 (eVar 2) (eCB fLen [.v (.L .im)] (eCons (eBin (dIxAt 0) (.v (.T [(.L .im), .im])) (eVar 3) (.v .im) (eC (.int 0))) (eNil))))) (sRet (eVar 1)))
def b__law_next (C : Fid → List D → R D) : SM := sSeq (sSet 1 (eBin dIx (.s 0) (eSl) (.v .im) (eC (.int 0)))) (sSeq (sPut 0 (eC (.int 0)) (eBin dAddI (.v .any) (eVar 1) (.v .im) (eC (.int 1)))) (sSeq (sIf (eT (eBin dLt (.v .any) (eVar 1) (.v .im) (eCB fLen [.v .any] (eCons (eBin dIx (.s 0) (eSl) (.v .im) (eC (.int 1))) (eNil))))) (sRet (eBin dMod (.v .any) (eBin dIx (.v .any) (eBin dIx (.s 0) (eSl) (.v .im) (eC (.int 1))) (.v .any) (eVar 1)) (.v .im) (eC (.int 1000000000000000000)))) (sNx)) (sSeq (sSet 2 (eBin dMod (.v .im) (eBin dAdd (.v .im) (eBin dAdd (.v .im) (eBin dMul (.v .any) (eVar 1) (.v .im) (eC (.int 48271))) (.v .im) (eBin dMul (.v .any) (eBin dIx (.s 0) (eSl) (.v .im) (eC (.int 3))) (.v .im) (eC (.int 16807)))) (.v .im) (eC (.int 12345))) (.v .im) (eC (.int 2147483647)))) (sRet (eBin dMod (.v .im) (eBin dMul (.v .im) (eVar 2) (.v .im) (eVar 2)) (.v .im) (eC (.int 2147483629)))))))
def b__law_state (C : Fid → List D → R D) : SM := sSeq (sSet 2 (eC (.int 0))) (sSeq (sFor (eItL (eSlc dCutL (.v (.L .im)) (eVar 0) (pNone) (pSome (eC (.int 64))))) (.nm 3) (sSet 2 (eBin dMod (.v .im) (eBin dAdd (.v .im) (eBin dMul (.v .im) (eVar 2) (.v .im) (eC (.int 31))) (.v .im) (eVar 3)) (.v .im) (eC (.int 1000003))))) (sRet (eLst (eCons (eC (.int 0)) (eCons (eVar 0) (eCons (eVar 1) (eCons (eVar 2) (eNil))))))))
def b__law_pool (C : Fid → List D → R D) : SM := sSeq (sSet 2 (eC (.str "abcdefghijklmnopqrstuvwxyz0123456789"))) (sSeq (sSet 3 (eBin dAdd (.v .im) (eC (.int 1)) (.v .im) (eBin dMod (.v .im) (eVar 0) (.v .im) (eC (.int 8))))) (sSeq (sSet 4 (eBin dMod (.v .im) (eBin dDiv (.v .im) (eVar 0) (.v .im) (eC (.int 8))) (.v .im) (eVar 3))) (sSeq (sSet 5 (eLst (eNil))) (sSeq (sFor (eRg rg1 (eCons (eVar 1) (eNil))) (.nm 6) (sSeq (sSet 7 (eC (.str ""))) (sSeq (sFor (eRg rg1 (eCons (eVar 3) (eNil))) (.nm 8) (sIf (eT (eBin dEq (.v .im) (eVar 8) (.v .im) (eVar 4))) (sSet 7 (eBin dAdd (.v .im) (eVar 7) (.v .im) (eBin dIx (.v .im) (eVar 2) (.v .im) (eBin dMod (.v .im) (eBin dAdd (.v .im) (eBin dDiv (.v .im) (eVar 0) (.v .im) (eC (.int 64))) (.v .im) (eVar 6)) (.v .im) (eC (.int 26)))))) (sSet 7 (eBin dAdd (.v .im) (eVar 7) (.v .im) (eBin dIx (.v .im) (eVar 2) (.v .im) (eBin dMod (.v .im) (eBin dDiv (.v .im) (eVar 0) (.v .im) (eBin dAdd (.v .im) (eC (.int 64)) (.v .im) (eBin dMul (.v .im) (eC (.int 5)) (.v .im) (eVar 8)))) (.v .im) (eBin dIx (.v (.L .im)) (eLst (eCons (eC (.int 36)) (eCons (eC (.int 26)) (eNil)))) (.v .im) (eCB fInt [.v .im] (eCons (eBin dEq (.v .im) (eVar 8) (.v .im) (eC (.int 0))) (eNil)))))))))) (sSeq (sIf (eT (eBin (dIn false) (.v .im) (eVar 7) (.v .im) (eTup (eCons (eC (.str "fun")) (eCons (eC (.str "let")) (eCons (eC (.str "choose")) (eCons (eC (.str "first")) (eCons (eC (.str "stop")) (eCons (eC (.str "rows")) (eCons (eC (.str "in")) (eCons (eC (.str "when")) (eCons (eC (.str "be")) (eNil))))))))))))) (sSet 7 (eBin dAdd (.v .im) (eVar 7) (.v .im) (eC (.str "7")))) (sNx)) (sDo (eMeth fApp 5 (eCons (eVar 7) eNil))))))) (sRet (eVar 5))))))
def b__law_leaf (C : Fid → List D → R D) : SM := sSeq (sIf (eAndT (eT (eBin dLt (.v .im) (eBin dMod (.v .im) (eVar 0) (.v .im) (eC (.int 5))) (.v .im) (eC (.int 2)))) (eT (eBin dGt (.v .im) (eCB fLen [.v (.L .im)] (eCons (eVar 2) (eNil))) (.v .im) (eC (.int 0))))) (sRet (eTup (eCons (eC (.str "name")) (eCons (eBin dIx (.v (.L .im)) (eVar 2) (.v .im) (eBin dSub (.v .im) (eUn dNeg (.v .im) (eC (.int 1))) (.v .im) (eBin dMod (.v .im) (eBin dDiv (.v .im) (eVar 0) (.v .im) (eC (.int 5))) (.v .im) (eCB fMin [.v .im, .v .im] (eCons (eC (.int 3)) (eCons (eCB fLen [.v (.L .im)] (eCons (eVar 2) (eNil))) (eNil))))))) (eNil))))) (sNx)) (sSeq (sIf (eAndT (eT (eBin dLt (.v .im) (eBin dMod (.v .im) (eVar 0) (.v .im) (eC (.int 5))) (.v .im) (eC (.int 4)))) (eT (eBin dGt (.v .im) (eCB fLen [.v (.L .im)] (eCons (eVar 2) (eNil))) (.v .im) (eC (.int 0))))) (sRet (eTup (eCons (eC (.str "name")) (eCons (eBin dIx (.v (.L .im)) (eVar 2) (.v .im) (eBin dMod (.v .im) (eBin dDiv (.v .im) (eVar 0) (.v .im) (eC (.int 5))) (.v .im) (eCB fLen [.v (.L .im)] (eCons (eVar 2) (eNil))))) (eNil))))) (sNx)) (sSeq (sIf (eT (eBin dEq (.v .im) (eBin dMod (.v .im) (eVar 0) (.v .im) (eC (.int 15))) (.v .im) (eC (.int 4)))) (sRet (eTup (eCons (eC (.str "stop")) (eCons (eBin dIx (.v (.L .im)) (eVar 1) (.v .im) (eBin dMod (.v .im) (eBin dDiv (.v .im) (eVar 0) (.v .im) (eC (.int 15))) (.v .im) (eCB fLen [.v (.L .im)] (eCons (eVar 1) (eNil))))) (eNil))))) (sNx)) (sSeq (sSet 3 (eLst (eCons (eTup (eCons (eC (.str "number")) (eCons (eBin dDiv (.v .im) (eVar 0) (.v .im) (eC (.int 20))) (eNil)))) (eCons (eTup (eCons (eC (.str "shape")) (eCons (eC (.str "Nil")) (eCons (eTup (eNil)) (eNil))))) (eCons (eTup (eCons (eC (.str "number")) (eCons (eBin dMod (.v .im) (eBin dDiv (.v .im) (eVar 0) (.v .im) (eC (.int 20))) (.v .im) (eC (.int 3))) (eNil)))) (eCons (eTup (eCons (eC (.str "shape")) (eCons (eC (.str "No")) (eCons (eTup (eNil)) (eNil))))) (eNil))))))) (sRet (eBin dIx (.v (.L .im)) (eVar 3) (.v .im) (eBin dMod (.v .im) (eBin dDiv (.v .im) (eVar 0) (.v .im) (eC (.int 5))) (.v .im) (eC (.int 4))))))))
def b__law_choose (C : Fid → List D → R D) : SM := sSeq (sSet 5 (eCall (C ._law_next) [.o 0] [] (eCons eSl (eNil)))) (sSeq (sSet 6 (eCall (C ._law_any) [.o 0, .v (.L .im), .v (.L .im), .v (.L .im), .v .im] [] (eCons eSl (eCons (eVar 1) (eCons (eVar 2) (eCons (eVar 3) (eCons (eVar 4) (eNil)))))))) (sSeq (sSet 7 (eCall (C ._law_any) [.o 0, .v (.L .im), .v (.L .im), .v (.L .im), .v .im] [] (eCons eSl (eCons (eVar 1) (eCons (eVar 2) (eCons (eVar 3) (eCons (eVar 4) (eNil)))))))) (sSeq (sIf (eT (eBin dEq (.v .im) (eBin dMod (.v .im) (eVar 5) (.v .im) (eC (.int 3))) (.v .im) (eC (.int 0)))) (sRet (eTup (eCons (eC (.str "choose")) (eCons (eVar 6) (eCons (eTup (eCons (eTup (eCons (eC (.str "No")) (eCons (eTup (eNil)) (eCons (eVar 7) (eNil))))) (eCons (eTup (eCons (eC (.str "Yes")) (eCons (eTup (eNil)) (eCons (eCall (C ._law_any) [.o 0, .v (.L .im), .v (.L .im), .v (.L .im), .v .im] [] (eCons eSl (eCons (eVar 1) (eCons (eVar 2) (eCons (eVar 3) (eCons (eVar 4) (eNil))))))) (eNil))))) (eNil)))) (eNil)))))) (sNx)) (sSeq (sSet 8 (eBin dMod (.v .im) (eBin dDiv (.v .im) (eVar 5) (.v .im) (eC (.int 3))) (.v .im) (eCB fLen [.v (.L .im)] (eCons (eVar 1) (eNil))))) (sSeq (sSet 9 (eTup (eCons (eBin dIx (.v (.L .im)) (eVar 1) (.v .im) (eVar 8)) (eCons (eBin dIx (.v (.L .im)) (eVar 1) (.v .im) (eBin dMod (.v .im) (eBin dAdd (.v .im) (eBin dAdd (.v .im) (eVar 8) (.v .im) (eC (.int 1))) (.v .im) (eBin dMod (.v .im) (eBin dDiv (.v .im) (eVar 5) (.v .im) (eC (.int 100))) (.v .im) (eBin dSub (.v .im) (eCB fLen [.v (.L .im)] (eCons (eVar 1) (eNil))) (.v .im) (eC (.int 1))))) (.v .im) (eCB fLen [.v (.L .im)] (eCons (eVar 1) (eNil))))) (eNil))))) (sSeq (sSet 10 (eCall (C ._law_any) [.o 0, .v (.L .im), .v (.L .im), .v (.L .im), .v .im] [] (eCons eSl (eCons (eVar 1) (eCons (eBinN fCat (.v (.L .im)) (eVar 2) (.v (.L .im)) (eCN fSeq [.v .im] (eCons (eVar 9) (eNil)))) (eCons (eVar 3) (eCons (eVar 4) (eNil)))))))) (sSeq (sIf (eT (eBin dEq (.v .im) (eBin dMod (.v .im) (eVar 5) (.v .im) (eC (.int 3))) (.v .im) (eC (.int 1)))) (sRet (eTup (eCons (eC (.str "choose")) (eCons (eVar 6) (eCons (eTup (eCons (eTup (eCons (eC (.str "Pair")) (eCons (eVar 9) (eCons (eVar 10) (eNil))))) (eNil))) (eNil)))))) (sNx)) (sRet (eTup (eCons (eC (.str "choose")) (eCons (eVar 6) (eCons (eTup (eCons (eTup (eCons (eC (.str "Nil")) (eCons (eTup (eNil)) (eCons (eVar 7) (eNil))))) (eCons (eTup (eCons (eC (.str "Cons")) (eCons (eVar 9) (eCons (eVar 10) (eNil))))) (eNil)))) (eNil)))))))))))))
def b__law_funs (C : Fid → List D → R D) : SM := sSeq (sSet 5 (eCall (C ._law_next) [.o 0] [] (eCons eSl (eNil)))) (sSeq (sSet 6 (eLc (eRg rg1 (eCons (eBin dAdd (.v .im) (eC (.int 1)) (.v .im) (eBin dMod (.v .im) (eVar 5) (.v .im) (eC (.int 3)))) (eNil))) (.nm 9) (eYes) (eBin dIx (.v (.L .im)) (eVar 1) (.v .im) (eBin dMod (.v .im) (eBin dAdd (.v .im) (eBin dDiv (.v .im) (eVar 5) (.v .im) (eC (.int 3))) (.v .im) (eBin dMul (.v .im) (eVar 9) (.v .im) (eBin dMod (.v .im) (eBin dDiv (.v .im) (eVar 5) (.v .im) (eC (.int 50))) (.v .im) (eC (.int 3))))) (.v .im) (eCB fLen [.v (.L .im)] (eCons (eVar 1) (eNil))))))) (sSeq (sSet 7 (eCall (C ._law_any) [.o 0, .v (.L .im), .v (.L .im), .v (.L .im), .v .im] [] (eCons eSl (eCons (eVar 1) (eCons (eBinN fCat (.v (.L .im)) (eVar 2) (.v (.L .im)) (eVar 6)) (eCons (eVar 3) (eCons (eVar 4) (eNil)))))))) (sSeq (sFor (eItR (eVar 6)) (.nm 8) (sSet 7 (eTup (eCons (eC (.str "fun")) (eCons (eVar 8) (eCons (eVar 7) (eNil))))))) (sRet (eVar 7)))))
def b__law_let (C : Fid → List D → R D) : SM := sSeq (sSet 5 (eCall (C ._law_next) [.o 0] [] (eCons eSl (eNil)))) (sSeq (sSet 6 (eBin dIx (.v (.L .im)) (eLst (eCons (eC (.int 1)) (eCons (eC (.int 2)) (eCons (eC (.int 2)) (eCons (eC (.int 3)) (eCons (eC (.int 5)) (eNil))))))) (.v .im) (eBin dMod (.v .im) (eVar 5) (.v .im) (eC (.int 5))))) (sSeq (sPut 0 (eC (.int 2)) (eBin dSub (.v .any) (eBin dIx (.s 0) (eSl) (.v .im) (eC (.int 2))) (.v .im) (eVar 6))) (sSeq (sSet 7 (eLc (eRg rg1 (eCons (eVar 6) (eNil))) (.nm 12) (eYes) (eBin dIx (.v (.L .im)) (eVar 1) (.v .im) (eBin dMod (.v .im) (eBin dAdd (.v .im) (eBin dDiv (.v .im) (eVar 5) (.v .im) (eC (.int 5))) (.v .im) (eVar 12)) (.v .im) (eCB fLen [.v (.L .im)] (eCons (eVar 1) (eNil))))))) (sSeq (sSet 8 (eLc (eEnum (eCons (eVar 7) (eNil))) (.pr [.nm 12, .nm 11]) (eT (eBin dEq (.v .im) (eBin dAnd (.v .im) (eBin dShr (.v .im) (eVar 5) (.v .im) (eBin dAdd (.v .im) (eC (.int 5)) (.v .im) (eVar 12))) (.v .im) (eC (.int 1))) (.v .im) (eC (.int 1)))) (eVar 11))) (sSeq (sSet 9 (eBinN fCat (.v (.L .im)) (eVar 2) (.v (.L .im)) (eVar 7))) (sSeq (sSet 10 (eLst (eNil))) (sSeq (sFor (eItL (eVar 7)) (.nm 11) (sIf (eT (eBin (dIn false) (.v .im) (eVar 11) (.v (.L .im)) (eVar 8))) (sDo (eMeth fApp 10 (eCons (eTup (eCons (eVar 11) (eCons (eCall (C ._law_funs) [.o 0, .v (.L .im), .v (.L .im), .v (.L .im), .v .im] [] (eCons eSl (eCons (eVar 1) (eCons (eVar 9) (eCons (eBinN fCat (.v (.L .im)) (eVar 3) (.v (.L .im)) (eVar 8)) (eCons (eVar 4) (eNil))))))) (eNil)))) eNil))) (sDo (eMeth fApp 10 (eCons (eTup (eCons (eVar 11) (eCons (eCall (C ._law_any) [.o 0, .v (.L .im), .v (.L .im), .v (.L .im), .v .im] [] (eCons eSl (eCons (eVar 1) (eCons (eVar 9) (eCons (eBinN fCat (.v (.L .im)) (eVar 3) (.v (.L .im)) (eVar 8)) (eCons (eVar 4) (eNil))))))) (eNil)))) eNil))))) (sRet (eTup (eCons (eC (.str "let")) (eCons (eCB fTup [.v (.L .im)] (eCons (eVar 10) (eNil))) (eCons (eCall (C ._law_any) [.o 0, .v (.L .im), .v (.L .im), .v (.L .im), .v .im] [] (eCons eSl (eCons (eVar 1) (eCons (eVar 9) (eCons (eBinN fCat (.v (.L .im)) (eVar 3) (.v (.L .im)) (eVar 8)) (eCons (eVar 4) (eNil))))))) (eNil)))))))))))))
def b__law_call (C : Fid → List D → R D) : SM := sSeq (sSet 5 (eCall (C ._law_next) [.o 0] [] (eCons eSl (eNil)))) (sSeq (sIf (eT (eBin dEq (.v .im) (eBin dMod (.v .im) (eVar 5) (.v .im) (eC (.int 4))) (.v .im) (eC (.int 0)))) (sSet 6 (eCall (C ._law_any) [.o 0, .v (.L .im), .v (.L .im), .v (.L .im), .v .im] [] (eCons eSl (eCons (eVar 1) (eCons (eVar 2) (eCons (eVar 3) (eCons (eVar 4) (eNil)))))))) (sIf (eOrT (eT (eBin dEq (.v .im) (eBin dMod (.v .im) (eVar 5) (.v .im) (eC (.int 4))) (.v .im) (eC (.int 1)))) (eT (eBin dEq (.v .im) (eCB fLen [.v (.L .im)] (eCons (eVar 3) (eNil))) (.v .im) (eC (.int 0))))) (sSet 6 (eCall (C ._law_funs) [.o 0, .v (.L .im), .v (.L .im), .v (.L .im), .v .im] [] (eCons eSl (eCons (eVar 1) (eCons (eVar 2) (eCons (eVar 3) (eCons (eBin dSub (.v .im) (eVar 4) (.v .im) (eC (.int 1))) (eNil)))))))) (sSet 6 (eTup (eCons (eC (.str "name")) (eCons (eBin dIx (.v (.L .im)) (eVar 3) (.v .im) (eBin dMod (.v .im) (eBin dDiv (.v .im) (eVar 5) (.v .im) (eC (.int 4))) (.v .im) (eCB fLen [.v (.L .im)] (eCons (eVar 3) (eNil))))) (eNil))))))) (sSeq (sSet 7 (eBin dIx (.v (.L .im)) (eLst (eCons (eC (.int 1)) (eCons (eC (.int 2)) (eCons (eC (.int 2)) (eCons (eC (.int 3)) (eNil)))))) (.v .im) (eBin dMod (.v .im) (eBin dDiv (.v .im) (eVar 5) (.v .im) (eC (.int 60))) (.v .im) (eC (.int 4))))) (sSeq (sPut 0 (eC (.int 2)) (eBin dSub (.v .any) (eBin dIx (.s 0) (eSl) (.v .im) (eC (.int 2))) (.v .im) (eVar 7))) (sSeq (sFor (eRg rg1 (eCons (eVar 7) (eNil))) (.nm 8) (sSet 6 (eTup (eCons (eC (.str "call")) (eCons (eVar 6) (eCons (eCall (C ._law_any) [.o 0, .v (.L .im), .v (.L .im), .v (.L .im), .v .im] [] (eCons eSl (eCons (eVar 1) (eCons (eVar 2) (eCons (eVar 3) (eCons (eVar 4) (eNil))))))) (eNil))))))) (sRet (eVar 6))))))
def b__law_any (C : Fid → List D → R D) : SM := sSeq (sSet 5 (eCall (C ._law_next) [.o 0] [] (eCons eSl (eNil)))) (sSeq (sPut 0 (eC (.int 2)) (eBin dSub (.v .any) (eBin dIx (.s 0) (eSl) (.v .im) (eC (.int 2))) (.v .im) (eC (.int 1)))) (sSeq (sSet 6 (eBin dMod (.v .im) (eVar 5) (.v .im) (eC (.int 14)))) (sSeq (sSet 5 (eBin dDiv (.v .im) (eVar 5) (.v .im) (eC (.int 14)))) (sSeq (sIf (eOrT (eT (eBin dLt (.v .im) (eVar 6) (.v .im) (eC (.int 3)))) (eOrT (eT (eBin dLt (.v .im) (eVar 4) (.v .im) (eC (.int 1)))) (eT (eBin dLt (.v .any) (eBin dIx (.s 0) (eSl) (.v .im) (eC (.int 2))) (.v .im) (eC (.int 0)))))) (sRet (eCall (C ._law_leaf) [.v .im, .v (.L .im), .v (.L .im)] [] (eCons (eVar 5) (eCons (eVar 1) (eCons (eVar 2) (eNil)))))) (sNx)) (sSeq (sIf (eT (eBin dLt (.v .im) (eVar 6) (.v .im) (eC (.int 6)))) (sRet (eCall (C ._law_choose) [.o 0, .v (.L .im), .v (.L .im), .v (.L .im), .v .im] [] (eCons eSl (eCons (eVar 1) (eCons (eVar 2) (eCons (eVar 3) (eCons (eBin dSub (.v .im) (eVar 4) (.v .im) (eC (.int 1))) (eNil)))))))) (sNx)) (sSeq (sIf (eT (eBin dEq (.v .im) (eVar 6) (.v .im) (eC (.int 6)))) (sRet (eCall (C ._law_let) [.o 0, .v (.L .im), .v (.L .im), .v (.L .im), .v .im] [] (eCons eSl (eCons (eVar 1) (eCons (eVar 2) (eCons (eVar 3) (eCons (eBin dSub (.v .im) (eVar 4) (.v .im) (eC (.int 1))) (eNil)))))))) (sNx)) (sSeq (sIf (eT (eBin dLt (.v .im) (eVar 6) (.v .im) (eC (.int 11)))) (sRet (eCall (C ._law_call) [.o 0, .v (.L .im), .v (.L .im), .v (.L .im), .v .im] [] (eCons eSl (eCons (eVar 1) (eCons (eVar 2) (eCons (eVar 3) (eCons (eBin dSub (.v .im) (eVar 4) (.v .im) (eC (.int 1))) (eNil)))))))) (sNx)) (sSeq (sIf (eAndT (eT (eBin dEq (.v .im) (eVar 6) (.v .im) (eC (.int 11)))) (eT (eBin dEq (.v .im) (eBin dMod (.v .im) (eVar 5) (.v .im) (eC (.int 2))) (.v .im) (eC (.int 0))))) (sRet (eCall (C ._law_funs) [.o 0, .v (.L .im), .v (.L .im), .v (.L .im), .v .im] [] (eCons eSl (eCons (eVar 1) (eCons (eVar 2) (eCons (eVar 3) (eCons (eBin dSub (.v .im) (eVar 4) (.v .im) (eC (.int 1))) (eNil)))))))) (sNx)) (sSeq (sSet 7 (eCall (C ._law_any) [.o 0, .v (.L .im), .v (.L .im), .v (.L .im), .v .im] [] (eCons eSl (eCons (eVar 1) (eCons (eVar 2) (eCons (eVar 3) (eCons (eBin dSub (.v .im) (eVar 4) (.v .im) (eC (.int 1))) (eNil)))))))) (sSeq (sSet 8 (eCall (C ._law_any) [.o 0, .v (.L .im), .v (.L .im), .v (.L .im), .v .im] [] (eCons eSl (eCons (eVar 1) (eCons (eVar 2) (eCons (eVar 3) (eCons (eBin dSub (.v .im) (eVar 4) (.v .im) (eC (.int 1))) (eNil)))))))) (sSeq (sIf (eT (eBin dEq (.v .im) (eVar 6) (.v .im) (eC (.int 11)))) (sRet (eTup (eCons (eC (.str "shape")) (eCons (eBin dIx (.v (.L .im)) (eLst (eCons (eC (.str "Cons")) (eCons (eC (.str "Pair")) (eNil)))) (.v .im) (eBin dMod (.v .im) (eBin dDiv (.v .im) (eVar 5) (.v .im) (eC (.int 2))) (.v .im) (eC (.int 2)))) (eCons (eTup (eCons (eVar 7) (eCons (eVar 8) (eNil)))) (eNil)))))) (sNx)) (sSeq (sIf (eT (eBin dEq (.v .im) (eVar 6) (.v .im) (eC (.int 12)))) (sRet (eTup (eCons (eC (.str "first")) (eCons (eVar 7) (eCons (eVar 8) (eNil)))))) (sNx)) (sRet (eTup (eCons (eC (.str "does")) (eCons (eBin dIx (.v .im) (eC (.str "+-*<=")) (.v .im) (eBin dMod (.v .im) (eVar 5) (.v .im) (eC (.int 5)))) (eCons (eVar 7) (eCons (eVar 8) (eNil)))))))))))))))))))
def b__law_parts (C : Fid → List D → R D) : SM := sSeq (sIf (eT (eBin dEq (.v .im) (eBin dIx (.v .im) (eVar 0) (.v .im) (eC (.int 0))) (.v .im) (eC (.str "does")))) (sRet (eLst (eCons (eBin dIx (.v .im) (eVar 0) (.v .im) (eC (.int 2))) (eCons (eBin dIx (.v .im) (eVar 0) (.v .im) (eC (.int 3))) (eNil))))) (sNx)) (sSeq (sIf (eT (eBin dEq (.v .im) (eBin dIx (.v .im) (eVar 0) (.v .im) (eC (.int 0))) (.v .im) (eC (.str "fun")))) (sRet (eLst (eCons (eBin dIx (.v .im) (eVar 0) (.v .im) (eC (.int 2))) (eNil)))) (sNx)) (sSeq (sIf (eT (eBin (dIn false) (.v .im) (eBin dIx (.v .im) (eVar 0) (.v .im) (eC (.int 0))) (.v .im) (eTup (eCons (eC (.str "call")) (eCons (eC (.str "first")) (eNil)))))) (sRet (eLst (eCons (eBin dIx (.v .im) (eVar 0) (.v .im) (eC (.int 1))) (eCons (eBin dIx (.v .im) (eVar 0) (.v .im) (eC (.int 2))) (eNil))))) (sNx)) (sSeq (sIf (eT (eBin dEq (.v .im) (eBin dIx (.v .im) (eVar 0) (.v .im) (eC (.int 0))) (.v .im) (eC (.str "let")))) (sRet (eBinN fCat (.v (.L .im)) (eLc (eItE (eBin dIx (.v .im) (eVar 0) (.v .im) (eC (.int 1)))) (.nm 1) (eYes) (eBin dIx (.v .im) (eVar 1) (.v .im) (eC (.int 1)))) (.v (.L .im)) (eLst (eCons (eBin dIx (.v .im) (eVar 0) (.v .im) (eC (.int 2))) (eNil))))) (sNx)) (sSeq (sIf (eT (eBin dEq (.v .im) (eBin dIx (.v .im) (eVar 0) (.v .im) (eC (.int 0))) (.v .im) (eC (.str "shape")))) (sRet (eCN fSeq [.v .im] (eCons (eBin dIx (.v .im) (eVar 0) (.v .im) (eC (.int 2))) (eNil)))) (sNx)) (sSeq (sIf (eT (eBin dEq (.v .im) (eBin dIx (.v .im) (eVar 0) (.v .im) (eC (.int 0))) (.v .im) (eC (.str "choose")))) (sRet (eBinN fCat (.v (.L .im)) (eLst (eCons (eBin dIx (.v .im) (eVar 0) (.v .im) (eC (.int 1))) (eNil))) (.v (.L .im)) (eLc (eItE (eBin dIx (.v .im) (eVar 0) (.v .im) (eC (.int 2)))) (.nm 2) (eYes) (eBin dIx (.v .im) (eVar 2) (.v .im) (eC (.int 2)))))) (sNx)) (sRet (eLst (eNil))))))))
def b__law_look (C : Fid → List D → R D) : SM := sSeq (sSet 3 (eLst (eNil))) (sSeq (sIf (eT (eBin dEq (.v .im) (eBin dIx (.v .im) (eVar 0) (.v .im) (eC (.int 0))) (.v .im) (eC (.str "fun")))) (sSet 3 (eLst (eCons (eBin dIx (.v .im) (eVar 0) (.v .im) (eC (.int 1))) (eNil)))) (sNx)) (sSeq (sIf (eT (eBin dEq (.v .im) (eBin dIx (.v .im) (eVar 0) (.v .im) (eC (.int 0))) (.v .im) (eC (.str "choose")))) (sFor (eItE (eBin dIx (.v .im) (eVar 0) (.v .im) (eC (.int 2)))) (.nm 4) (sDo (eMeth fExt 3 (eCons (eBin dIx (.v .im) (eVar 4) (.v .im) (eC (.int 1))) eNil)))) (sNx)) (sSeq (sIf (eT (eBin dEq (.v .im) (eBin dIx (.v .im) (eVar 0) (.v .im) (eC (.int 0))) (.v .im) (eC (.str "let")))) (sFor (eItE (eBin dIx (.v .im) (eVar 0) (.v .im) (eC (.int 1)))) (.pr [.nm 5, .nm 4]) (sSeq (sDo (eMeth fApp 3 (eCons (eVar 5) eNil))) (sIf (eT (eBin dEq (.v .im) (eBin dIx (.v .im) (eVar 4) (.v .im) (eC (.int 0))) (.v .im) (eC (.str "fun")))) (sDo (eMeth fApp 2 (eCons (eTup (eCons (eVar 5) (eCons (eVar 4) (eNil)))) eNil))) (sNx)))) (sNx)) (sSeq (sFor (eItL (eVar 3)) (.nm 5) (sPutD 1 (eVar 5) (eBin dAdd (.v .im) (eDGet2 (.s 1) (eSl) (eVar 5) (eC (.int 0))) (.v .im) (eC (.int 1))))) (sFor (eItL (eCall (C ._law_parts) [.v .im] [] (eCons (eVar 0) (eNil)))) (.nm 6) (sDo (eCall (C ._law_look) [.v .im, .o 1, .o 2] [] (eCons (eVar 6) (eCons eSl (eCons eSl (eNil)))))))))))
def b__law_closed_term (C : Fid → List D → R D) : SM := sSeq (sSet 3 (eCall (C ._law_next) [.o 0] [] (eCons eSl (eNil)))) (sSeq (sIf (eT (eBin dGt (.v .im) (eBin dMod (.v .im) (eVar 3) (.v .im) (eC (.int 4))) (.v .im) (eC (.int 0)))) (sRet (eCall (C ._law_let) [.o 0, .v (.L .im), .v (.L .im), .v (.L .im), .v .im] [] (eCons eSl (eCons (eVar 1) (eCons (eLst (eNil)) (eCons (eLst (eNil)) (eCons (eVar 2) (eNil)))))))) (sNx)) (sRet (eCall (C ._law_any) [.o 0, .v (.L .im), .v (.L .im), .v (.L .im), .v .im] [] (eCons eSl (eCons (eVar 1) (eCons (eLst (eNil)) (eCons (eLst (eNil)) (eCons (eVar 2) (eNil)))))))))
def b__law_due (C : Fid → List D → R D) : SM := sSeq (sSet 1 (eDic0)) (sSeq (sSet 2 (eLst (eNil))) (sSeq (sDo (eCall (C ._law_look) [.v .im, .o 1, .o 2] [] (eCons (eVar 0) (eCons eSl (eCons eSl (eNil)))))) (sSeq (sSet 3 (eDic0)) (sSeq (sFor (eItL (eVar 2)) (.pr [.nm 4, .nm 5]) (sIf (eT (eBin dEq (.v .im) (eBin dGet (.v (.M .im)) (eVar 1) (.v .im) (eVar 4)) (.v .im) (eC (.int 1)))) (sSeq (sPutD 3 (eVar 4) (eC (.int 0))) (sWhile (eT (eBin dEq (.v .im) (eBin dIx (.v .im) (eVar 5) (.v .im) (eC (.int 0))) (.v .im) (eC (.str "fun")))) (sSeq (sPutD 3 (eVar 4) (eBin dAdd (.v .im) (eBin dGet (.s 3) (eSl) (.v .im) (eVar 4)) (.v .im) (eC (.int 1)))) (sSet 5 (eBin dIx (.v .im) (eVar 5) (.v .im) (eC (.int 2))))) 100000)) (sNx))) (sRet (eVar 3))))))
def b__law_alike (C : Fid → List D → R D) : SM := sSeq (sIf (eOrT (eNotT (eT (eIsi "dict" (.v (.M .im)) (eVar 0)))) (eT (eBin dNeD (.v (.M .im)) (eVar 0) (.v (.M .im)) (eVar 1)))) (sRet (eC (.bl false))) (sNx)) (sSeq (sFor (eItD itemsD 0) (.pr [.nm 2, .nm 3]) (sIf (eOrT (eNotT (eT (eIsi "int" (.v .im) (eVar 3)))) (eT (eIsi "bool" (.v .im) (eVar 3)))) (sRet (eC (.bl false))) (sNx))) (sRet (eC (.bl true))))
def b_law (C : Fid → List D → R D) : SM := sSeq (sSet 1 (eCall (C ._law_state) [.v (.L .im), .v .im] [] (eCons (eVar 0) (eCons (eC (.int 0)) (eNil))))) (sSeq (sSet 2 (eCall (C ._law_next) [.o 1] [] (eCons eSl (eNil)))) (sSeq (sSet 3 (eCall (C ._law_pool) [.v .im, .v .im] [] (eCons (eCall (C ._law_next) [.o 1] [] (eCons eSl (eNil))) (eCons (eBin dAdd (.v .im) (eC (.int 8)) (.v .im) (eBin dMod (.v .im) (eVar 2) (.v .im) (eC (.int 17)))) (eNil))))) (sSeq (sPut 1 (eC (.int 2)) (eBin dAdd (.v .im) (eC (.int 4)) (.v .im) (eBin dMul (.v .im) (eBin dMod (.v .im) (eBin dDiv (.v .im) (eVar 2) (.v .im) (eC (.int 17))) (.v .im) (eC (.int 36))) (.v .im) (eC (.int 2))))) (sSeq (sSet 4 (eCall (C ._law_closed_term) [.o 1, .v (.L .im), .v .im] [] (eCons eSl (eCons (eVar 3) (eCons (eBin dAdd (.v .im) (eC (.int 1)) (.v .im) (eBin dMod (.v .im) (eBin dDiv (.v .im) (eVar 2) (.v .im) (eC (.int 1224))) (.v .im) (eC (.int 4)))) (eNil)))))) (sSeq (sPut 1 (eC (.int 2)) (eC (.int 8))) (sSeq (sSet 5 (eCall (C ._law_let) [.o 1, .v (.L .im), .v (.L .im), .v (.L .im), .v .im] [] (eCons eSl (eCons (eVar 3) (eCons (eLst (eNil)) (eCons (eLst (eNil)) (eCons (eC (.int 2)) (eNil)))))))) (sSeq (sSet 6 (eCall (C .sole) [.v .im] [] (eCons (eVar 4) (eNil)))) (sSeq (sIf (eNotT (eT (eCall (C ._law_alike) [.b 6, .v (.M .im)] [] (eCons eSl (eCons (eCall (C ._law_due) [.v .im] [] (eCons (eVar 4) (eNil))) (eNil)))))) (sRet (eC (.bl false))) (sNx)) (sSeq (sPutD 6 (eBin dIx (.v (.L .im)) (eVar 3) (.v .im) (eC (.int 0))) (eC (.int 7))) (sRet (eAndV (eCall (C ._law_alike) [.v (.M .im), .v (.M .im)] [] (eCons (eCall (C .sole) [.v .im] [] (eCons (eVar 5) (eNil))) (eCons (eCall (C ._law_due) [.v .im] [] (eCons (eVar 5) (eNil))) (eNil)))) (eCall (C ._law_alike) [.v (.M .im), .v (.M .im)] [] (eCons (eCall (C .sole) [.v .im] [] (eCons (eVar 4) (eNil))) (eCons (eCall (C ._law_due) [.v .im] [] (eCons (eVar 4) (eNil))) (eNil)))))))))))))))
def sg : Fid → Gx
  | .row_of => [.fz .im]
  | .parts => [.fz .im]
  | .bound_by => [.fz .im]
  | .look_through => [.fz .im, .own (.M .im), .own (.M .im)]
  | .sole_rows => [.fz .im]
  | .sole => [.fz .im]
  | ._law_next => [.own (.L .any)]
  | ._law_state => [.fz (.L .im), .fz .im]
  | ._law_pool => [.fz .im, .fz .im]
  | ._law_leaf => [.fz .im, .fz (.L .im), .fz (.L .im)]
  | ._law_choose => [.own (.L .any), .fz (.L .im), .fz (.L .im), .fz (.L .im), .fz .im]
  | ._law_funs => [.own (.L .any), .fz (.L .im), .fz (.L .im), .fz (.L .im), .fz .im]
  | ._law_let => [.own (.L .any), .fz (.L .im), .fz (.L .im), .fz (.L .im), .fz .im]
  | ._law_call => [.own (.L .any), .fz (.L .im), .fz (.L .im), .fz (.L .im), .fz .im]
  | ._law_any => [.own (.L .any), .fz (.L .im), .fz (.L .im), .fz (.L .im), .fz .im]
  | ._law_parts => [.fz .im]
  | ._law_look => [.fz .im, .own (.M .im), .own (.L .im)]
  | ._law_closed_term => [.own (.L .any), .fz (.L .im), .fz .im]
  | ._law_due => [.fz .im]
  | ._law_alike => [.fz (.M .im), .fz (.M .im)]
  | .law => [.fz (.L .im)]
def rk : Fid → RK
  | .row_of => .fz (.T [(.L .im), .im])
  | .parts => .nw (.L .im)
  | .bound_by => .nw (.L .im)
  | .look_through => .fz .im
  | .sole_rows => .nw (.M (.T [(.L .im), .im]))
  | .sole => .nw (.M .im)
  | ._law_next => .fz .im
  | ._law_state => .nw (.L .any)
  | ._law_pool => .nw (.L .im)
  | ._law_leaf => .fz .im
  | ._law_choose => .fz .im
  | ._law_funs => .fz .im
  | ._law_let => .fz .im
  | ._law_call => .fz .im
  | ._law_any => .fz .im
  | ._law_parts => .nw (.L .im)
  | ._law_look => .fz .im
  | ._law_closed_term => .fz .im
  | ._law_due => .nw (.M .im)
  | ._law_alike => .fz .im
  | .law => .fz .im
def ps : Fid → List Str
  | .row_of => ["term"]
  | .parts => ["term"]
  | .bound_by => ["term"]
  | .look_through => ["term", "seen", "funs"]
  | .sole_rows => ["term"]
  | .sole => ["term"]
  | ._law_next => ["_law_state_here"]
  | ._law_state => ["_law_script", "_law_left"]
  | ._law_pool => ["_law_cell", "_law_many"]
  | ._law_leaf => ["_law_cell", "_law_pool_here", "_law_scope"]
  | ._law_choose => ["_law_state_here", "_law_pool_here", "_law_scope", "_law_known", "_law_fuel"]
  | ._law_funs => ["_law_state_here", "_law_pool_here", "_law_scope", "_law_known", "_law_fuel"]
  | ._law_let => ["_law_state_here", "_law_pool_here", "_law_scope", "_law_known", "_law_fuel"]
  | ._law_call => ["_law_state_here", "_law_pool_here", "_law_scope", "_law_known", "_law_fuel"]
  | ._law_any => ["_law_state_here", "_law_pool_here", "_law_scope", "_law_known", "_law_fuel"]
  | ._law_parts => ["_law_term"]
  | ._law_look => ["_law_term", "_law_seen", "_law_funs_here"]
  | ._law_closed_term => ["_law_state_here", "_law_pool_here", "_law_fuel"]
  | ._law_due => ["_law_term"]
  | ._law_alike => ["_law_found", "_law_due_here"]
  | .law => ["_law_script"]
def body (C : Fid → List D → R D) : Fid → List D → R D
  | .row_of => mkF false 2 1 (b_row_of C)
  | .parts => mkF false 5 1 (b_parts C)
  | .bound_by => mkF false 4 1 (b_bound_by C)
  | .look_through => mkF true 6 3 (b_look_through C)
  | .sole_rows => mkF false 6 1 (b_sole_rows C)
  | .sole => mkF false 4 1 (b_sole C)
  | ._law_next => mkF false 3 1 (b__law_next C)
  | ._law_state => mkF false 4 2 (b__law_state C)
  | ._law_pool => mkF false 9 2 (b__law_pool C)
  | ._law_leaf => mkF false 4 3 (b__law_leaf C)
  | ._law_choose => mkF false 11 5 (b__law_choose C)
  | ._law_funs => mkF false 10 5 (b__law_funs C)
  | ._law_let => mkF false 13 5 (b__law_let C)
  | ._law_call => mkF false 9 5 (b__law_call C)
  | ._law_any => mkF false 9 5 (b__law_any C)
  | ._law_parts => mkF false 3 1 (b__law_parts C)
  | ._law_look => mkF true 7 3 (b__law_look C)
  | ._law_closed_term => mkF false 4 3 (b__law_closed_term C)
  | ._law_due => mkF false 6 1 (b__law_due C)
  | ._law_alike => mkF false 4 2 (b__law_alike C)
  | .law => mkF false 7 1 (b_law C)
def Fn : Nat → Fid → List D → R D
  | 0, _, _ => .bad
  | n + 1, f, ds => body (Fn n) f ds
/-! the walk -/
structure Txt (K : PySem.W.Frag) (mg : Str → Option Value) (ad : Fid → Addr) (fd : Fid → FuncData) : Prop where
  m_row_of : mg "row_of" = some (.ref (ad .row_of))
  k_row_of : PySem.W.keepIn K (.ref (ad .row_of)) = true
  b_row_of : Binds K (fd .row_of) ["term"] []
  f_row_of : Fun K "row_of" "row_of" s_row_of (ad .row_of) (fd .row_of)
  m_parts : mg "parts" = some (.ref (ad .parts))
  k_parts : PySem.W.keepIn K (.ref (ad .parts)) = true
  b_parts : Binds K (fd .parts) ["term"] []
  f_parts : Fun K "parts" "parts" s_parts (ad .parts) (fd .parts)
  m_bound_by : mg "bound_by" = some (.ref (ad .bound_by))
  k_bound_by : PySem.W.keepIn K (.ref (ad .bound_by)) = true
  b_bound_by : Binds K (fd .bound_by) ["term"] []
  f_bound_by : Fun K "bound_by" "bound_by" s_bound_by (ad .bound_by) (fd .bound_by)
  m_look_through : mg "look_through" = some (.ref (ad .look_through))
  k_look_through : PySem.W.keepIn K (.ref (ad .look_through)) = true
  b_look_through : Binds K (fd .look_through) ["term", "seen", "funs"] []
  f_look_through : Fun K "look_through" "look_through" s_look_through (ad .look_through) (fd .look_through)
  m_sole_rows : mg "sole_rows" = some (.ref (ad .sole_rows))
  k_sole_rows : PySem.W.keepIn K (.ref (ad .sole_rows)) = true
  b_sole_rows : Binds K (fd .sole_rows) ["term"] []
  f_sole_rows : Fun K "sole_rows" "sole_rows" s_sole_rows (ad .sole_rows) (fd .sole_rows)
  m_sole : mg "sole" = some (.ref (ad .sole))
  k_sole : PySem.W.keepIn K (.ref (ad .sole)) = true
  b_sole : Binds K (fd .sole) ["term"] []
  f_sole : Fun K "sole" "sole" s_sole (ad .sole) (fd .sole)
  m__law_next : mg "_law_next" = some (.ref (ad ._law_next))
  k__law_next : PySem.W.keepIn K (.ref (ad ._law_next)) = true
  b__law_next : Binds K (fd ._law_next) ["_law_state_here"] []
  f__law_next : Fun K "_law_next" "_law_next" s__law_next (ad ._law_next) (fd ._law_next)
  m__law_state : mg "_law_state" = some (.ref (ad ._law_state))
  k__law_state : PySem.W.keepIn K (.ref (ad ._law_state)) = true
  b__law_state : Binds K (fd ._law_state) ["_law_script", "_law_left"] []
  f__law_state : Fun K "_law_state" "_law_state" s__law_state (ad ._law_state) (fd ._law_state)
  m__law_pool : mg "_law_pool" = some (.ref (ad ._law_pool))
  k__law_pool : PySem.W.keepIn K (.ref (ad ._law_pool)) = true
  b__law_pool : Binds K (fd ._law_pool) ["_law_cell", "_law_many"] []
  f__law_pool : Fun K "_law_pool" "_law_pool" s__law_pool (ad ._law_pool) (fd ._law_pool)
  m__law_leaf : mg "_law_leaf" = some (.ref (ad ._law_leaf))
  k__law_leaf : PySem.W.keepIn K (.ref (ad ._law_leaf)) = true
  b__law_leaf : Binds K (fd ._law_leaf) ["_law_cell", "_law_pool_here", "_law_scope"] []
  f__law_leaf : Fun K "_law_leaf" "_law_leaf" s__law_leaf (ad ._law_leaf) (fd ._law_leaf)
  m__law_choose : mg "_law_choose" = some (.ref (ad ._law_choose))
  k__law_choose : PySem.W.keepIn K (.ref (ad ._law_choose)) = true
  b__law_choose : Binds K (fd ._law_choose) ["_law_state_here", "_law_pool_here", "_law_scope", "_law_known", "_law_fuel"] []
  f__law_choose : Fun K "_law_choose" "_law_choose" s__law_choose (ad ._law_choose) (fd ._law_choose)
  m__law_funs : mg "_law_funs" = some (.ref (ad ._law_funs))
  k__law_funs : PySem.W.keepIn K (.ref (ad ._law_funs)) = true
  b__law_funs : Binds K (fd ._law_funs) ["_law_state_here", "_law_pool_here", "_law_scope", "_law_known", "_law_fuel"] []
  f__law_funs : Fun K "_law_funs" "_law_funs" s__law_funs (ad ._law_funs) (fd ._law_funs)
  m__law_let : mg "_law_let" = some (.ref (ad ._law_let))
  k__law_let : PySem.W.keepIn K (.ref (ad ._law_let)) = true
  b__law_let : Binds K (fd ._law_let) ["_law_state_here", "_law_pool_here", "_law_scope", "_law_known", "_law_fuel"] []
  f__law_let : Fun K "_law_let" "_law_let" s__law_let (ad ._law_let) (fd ._law_let)
  m__law_call : mg "_law_call" = some (.ref (ad ._law_call))
  k__law_call : PySem.W.keepIn K (.ref (ad ._law_call)) = true
  b__law_call : Binds K (fd ._law_call) ["_law_state_here", "_law_pool_here", "_law_scope", "_law_known", "_law_fuel"] []
  f__law_call : Fun K "_law_call" "_law_call" s__law_call (ad ._law_call) (fd ._law_call)
  m__law_any : mg "_law_any" = some (.ref (ad ._law_any))
  k__law_any : PySem.W.keepIn K (.ref (ad ._law_any)) = true
  b__law_any : Binds K (fd ._law_any) ["_law_state_here", "_law_pool_here", "_law_scope", "_law_known", "_law_fuel"] []
  f__law_any : Fun K "_law_any" "_law_any" s__law_any (ad ._law_any) (fd ._law_any)
  m__law_parts : mg "_law_parts" = some (.ref (ad ._law_parts))
  k__law_parts : PySem.W.keepIn K (.ref (ad ._law_parts)) = true
  b__law_parts : Binds K (fd ._law_parts) ["_law_term"] []
  f__law_parts : Fun K "_law_parts" "_law_parts" s__law_parts (ad ._law_parts) (fd ._law_parts)
  m__law_look : mg "_law_look" = some (.ref (ad ._law_look))
  k__law_look : PySem.W.keepIn K (.ref (ad ._law_look)) = true
  b__law_look : Binds K (fd ._law_look) ["_law_term", "_law_seen", "_law_funs_here"] []
  f__law_look : Fun K "_law_look" "_law_look" s__law_look (ad ._law_look) (fd ._law_look)
  m__law_closed_term : mg "_law_closed_term" = some (.ref (ad ._law_closed_term))
  k__law_closed_term : PySem.W.keepIn K (.ref (ad ._law_closed_term)) = true
  b__law_closed_term : Binds K (fd ._law_closed_term) ["_law_state_here", "_law_pool_here", "_law_fuel"] []
  f__law_closed_term : Fun K "_law_closed_term" "_law_closed_term" s__law_closed_term (ad ._law_closed_term) (fd ._law_closed_term)
  m__law_due : mg "_law_due" = some (.ref (ad ._law_due))
  k__law_due : PySem.W.keepIn K (.ref (ad ._law_due)) = true
  b__law_due : Binds K (fd ._law_due) ["_law_term"] []
  f__law_due : Fun K "_law_due" "_law_due" s__law_due (ad ._law_due) (fd ._law_due)
  m__law_alike : mg "_law_alike" = some (.ref (ad ._law_alike))
  k__law_alike : PySem.W.keepIn K (.ref (ad ._law_alike)) = true
  b__law_alike : Binds K (fd ._law_alike) ["_law_found", "_law_due_here"] []
  f__law_alike : Fun K "_law_alike" "_law_alike" s__law_alike (ad ._law_alike) (fd ._law_alike)
  m_law : mg "law" = some (.ref (ad .law))
  k_law : PySem.W.keepIn K (.ref (ad .law)) = true
  b_law : Binds K (fd .law) ["_law_script"] []
  f_law : Fun K "law" "law" s_law (ad .law) (fd .law)
  z_bool : mg "bool" = none
  z_dict : mg "dict" = none
  z_enumerate : mg "enumerate" = none
  z_int : mg "int" = none
  z_isinstance : mg "isinstance" = none
  z_len : mg "len" = none
  z_list : mg "list" = none
  z_min : mg "min" = none
  z_range : mg "range" = none
  z_reversed : mg "reversed" = none
  z_tuple : mg "tuple" = none
section
variable {P : Program} {w : World} {K : PySem.W.Frag} {mg : Str → Option Value} {base : Heap} {ad : Fid → Addr} {fd : Fid → FuncData} {k : Nat}
theorem ok_row_of (T : Txt K mg ad fd) (IH : ∀ g, FnOk P w K mg base CX0 k (ad g) (fd g) (ps g) (spF K XR0 (sg g) (rk g) (Fn k g))) : FnOk P w K mg base CX0 (k + 1) (ad .row_of) (fd .row_of) (ps .row_of) (spF K XR0 (sg .row_of) (rk .row_of) (Fn (k + 1) .row_of)) :=
  fn_body (fall := false) (β := b_row_of (Fn k)) T.f_row_of sc_row_of rfl rfl rfl rfl fun cdv A outer s H E hr => by
    have sc := sc_row_of
    have hu := hr.un
    have hu : (A.deeper (PyProof.Rows.envOfC "row_of" (defScope s_row_of) s.heap.objs.size (ad .row_of) cdv)).units + 200 < cLine := by omega
    have hu1 : (A.deeper (PyProof.Rows.envOfC "row_of" (defScope s_row_of) s.heap.objs.size (ad .row_of) cdv)).units + 1 < cLine := by omega
    exact sss_cons (ss_setN (i := 1) sc.nd rfl (by first | exact .inl rfl | exact .inr rfl) (sn_lst (ks := []) (t := .im) (sa_nil))) (sss_cons (ss_while (Γ := [.fz .im, .own (.L .im)]) (n := 100000) PassesOwn.never (st_cmp (ka := (.v .im)) (kb := (.v .im)) (op_eqP hu) eq_s (se_ix (ka := (.v .im)) (kb := (.v .im)) (ta := .im) (tb := .im) (t := .im) ix_seq ix_s (se_var (i := 0) (t := .im) rfl (pv 0)) (se_int) (fun _ _ => rfl)) (se_str) (nomark _)) (sss_wR (Γ2 := [.fz .im, .own (.L .im)]) (sss_cons (ss_expr (t := .im) (se_app (i := 1) (ta := .im) rfl (so_sl (i := 1) (t := (.L .im)) rfl (pv 1)) (se_ix (ka := (.v .im)) (kb := (.v .im)) (ta := .im) (tb := .im) (t := .im) ix_seq ix_s (se_var (i := 0) (t := .im) rfl (pv 0)) (se_int) (fun _ _ => rfl)))) (sss_one (ss_set (i := 0) sc.nd rfl (by first | exact .inl rfl | exact .inr rfl) (se_ix (ka := (.v .im)) (kb := (.v .im)) (ta := .im) (tb := .im) (t := .im) ix_seq ix_s (se_var (i := 0) (t := .im) rfl (pv 0)) (se_int) (fun _ _ => rfl))))))) (sss_one (ss_wL (Γ := [.fz .im, .own (.L .im)]) (Γ1 := [.fz .im, .fz (.L .im)]) (ss_ret (se_tup (ks := [.v (.L .im), .v .im]) (t := (.T [(.L .im), .im])) (sa_cons (se_var (i := 1) (t := (.L .im)) rfl (pv 1)) (sa_cons (se_var (i := 0) (t := .im) rfl (pv 0)) (sa_nil))))))))
theorem ok_parts (T : Txt K mg ad fd) (IH : ∀ g, FnOk P w K mg base CX0 k (ad g) (fd g) (ps g) (spF K XR0 (sg g) (rk g) (Fn k g))) : FnOk P w K mg base CX0 (k + 1) (ad .parts) (fd .parts) (ps .parts) (spF K XR0 (sg .parts) (rk .parts) (Fn (k + 1) .parts)) :=
  fn_body (fall := false) (β := b_parts (Fn k)) T.f_parts sc_parts rfl rfl rfl rfl fun cdv A outer s H E hr => by
    have sc := sc_parts
    have hu := hr.un
    have hu : (A.deeper (PyProof.Rows.envOfC "parts" (defScope s_parts) s.heap.objs.size (ad .parts) cdv)).units + 200 < cLine := by omega
    have hu1 : (A.deeper (PyProof.Rows.envOfC "parts" (defScope s_parts) s.heap.objs.size (ad .parts) cdv)).units + 1 < cLine := by omega
    exact sss_cons (ss_set (i := 1) sc.nd rfl (by first | exact .inl rfl | exact .inr rfl) (se_ix (ka := (.v .im)) (kb := (.v .im)) (ta := .im) (tb := .im) (t := .im) ix_seq ix_s (se_var (i := 0) (t := .im) rfl (pv 0)) (se_int) (fun _ _ => rfl))) (sss_cons (ss_if (Γ' := [.fz .im, .fz .im, .un, .un, .un]) (st_cmp (ka := (.v .im)) (kb := (.v .im)) (op_eqP hu) eq_s (se_var (i := 1) (t := .im) rfl (pv 1)) (se_str) (nomark _)) (sss_one (ss_retN (sn_lst (ks := [.v .im, .v .im]) (t := .im) (sa_cons (se_ix (ka := (.v .im)) (kb := (.v .im)) (ta := .im) (tb := .im) (t := .im) ix_seq ix_s (se_var (i := 0) (t := .im) rfl (pv 0)) (se_int) (fun _ _ => rfl)) (sa_cons (se_ix (ka := (.v .im)) (kb := (.v .im)) (ta := .im) (tb := .im) (t := .im) ix_seq ix_s (se_var (i := 0) (t := .im) rfl (pv 0)) (se_int) (fun _ _ => rfl)) (sa_nil)))))) (sss_wR (Γ2 := [.fz .im, .fz .im, .un, .un, .un]) (sss_nil))) (sss_cons (ss_if (Γ' := [.fz .im, .fz .im, .un, .un, .un]) (st_cmp (ka := (.v .im)) (kb := (.v .im)) (op_eqP hu) eq_s (se_var (i := 1) (t := .im) rfl (pv 1)) (se_str) (nomark _)) (sss_one (ss_retN (sn_lst (ks := [.v .im]) (t := .im) (sa_cons (se_ix (ka := (.v .im)) (kb := (.v .im)) (ta := .im) (tb := .im) (t := .im) ix_seq ix_s (se_var (i := 0) (t := .im) rfl (pv 0)) (se_int) (fun _ _ => rfl)) (sa_nil))))) (sss_wR (Γ2 := [.fz .im, .fz .im, .un, .un, .un]) (sss_nil))) (sss_cons (ss_if (Γ' := [.fz .im, .fz .im, .un, .un, .un]) (st_w (sw_or (st_cmp (ka := (.v .im)) (kb := (.v .im)) (op_eqP hu) eq_s (se_var (i := 1) (t := .im) rfl (pv 1)) (se_str) (nomark _)) (sw_or1 (st_cmp (ka := (.v .im)) (kb := (.v .im)) (op_eqP hu) eq_s (se_var (i := 1) (t := .im) rfl (pv 1)) (se_str) (nomark _))))) (sss_one (ss_retN (sn_lst (ks := [.v .im, .v .im]) (t := .im) (sa_cons (se_ix (ka := (.v .im)) (kb := (.v .im)) (ta := .im) (tb := .im) (t := .im) ix_seq ix_s (se_var (i := 0) (t := .im) rfl (pv 0)) (se_int) (fun _ _ => rfl)) (sa_cons (se_ix (ka := (.v .im)) (kb := (.v .im)) (ta := .im) (tb := .im) (t := .im) ix_seq ix_s (se_var (i := 0) (t := .im) rfl (pv 0)) (se_int) (fun _ _ => rfl)) (sa_nil)))))) (sss_wR (Γ2 := [.fz .im, .fz .im, .un, .un, .un]) (sss_nil))) (sss_cons (ss_if (Γ' := [.fz .im, .fz .im, .un, .un, .un]) (st_cmp (ka := (.v .im)) (kb := (.v .im)) (op_eqP hu) eq_s (se_var (i := 1) (t := .im) rfl (pv 1)) (se_str) (nomark _)) (sss_one (ss_retN (sn_cat (ka := (.v (.L .im))) (kb := (.v (.L .im))) (ta := .im) (tb := .im) (t := .im) rfl ((sn_lc (own := [("pair", 2)]) (u := .im) (t := .im) (tp := .nm 2) rfl sc.nd (si_im rfl (se_ix (ka := (.v .im)) (kb := (.v .im)) (ta := .im) (tb := .im) (t := .im) ix_seq ix_s (se_var (i := 0) (t := .im) rfl (pv 0)) (se_int) (fun _ _ => rfl))) (blkOk_by (N := ["term", "sort", "pair", "one", "step"]) (sc := defScope s_parts) (by decide +kernel)) (fun _ _ _ _ _ => gs_name (pg_name (i := 2) sc.nd rfl (by first | exact .inl rfl | exact .inr rfl))) (fun _ _ _ _ _ => pts_no) (fun _ _ _ _ _ => se_ix (ka := (.v .im)) (kb := (.v .im)) (ta := .im) (tb := .im) (t := .im) ix_seq ix_s (se_var (i := 2) (t := .im) rfl (pv 2)) (se_int) (fun _ _ => rfl))).fz) ((sn_lst (ks := [.v .im]) (t := .im) (sa_cons (se_ix (ka := (.v .im)) (kb := (.v .im)) (ta := .im) (tb := .im) (t := .im) ix_seq ix_s (se_var (i := 0) (t := .im) rfl (pv 0)) (se_int) (fun _ _ => rfl)) (sa_nil))).fz)))) (sss_wR (Γ2 := [.fz .im, .fz .im, .un, .un, .un]) (sss_nil))) (sss_cons (ss_if (Γ' := [.fz .im, .fz .im, .un, .un, .un]) (st_cmp (ka := (.v .im)) (kb := (.v .im)) (op_eqP hu) eq_s (se_var (i := 1) (t := .im) rfl (pv 1)) (se_str) (nomark _)) (sss_one (ss_retN (sn_ct (ks := [.v .im]) (t := .im) call_list_of list_s (by rfl) T.z_list (by decide +kernel) (sa_cons (se_ix (ka := (.v .im)) (kb := (.v .im)) (ta := .im) (tb := .im) (t := .im) ix_seq ix_s (se_var (i := 0) (t := .im) rfl (pv 0)) (se_int) (fun _ _ => rfl)) (sa_nil))))) (sss_wR (Γ2 := [.fz .im, .fz .im, .un, .un, .un]) (sss_nil))) (sss_cons (ss_if (Γ' := [.fz .im, .fz .im, .un, .un, .un]) (st_cmp (ka := (.v .im)) (kb := (.v .im)) (op_eqP hu) eq_s (se_var (i := 1) (t := .im) rfl (pv 1)) (se_str) (nomark _)) (sss_one (ss_retN (sn_cat (ka := (.v (.L .im))) (kb := (.v (.L .im))) (ta := .im) (tb := .im) (t := .im) rfl ((sn_lst (ks := [.v .im]) (t := .im) (sa_cons (se_ix (ka := (.v .im)) (kb := (.v .im)) (ta := .im) (tb := .im) (t := .im) ix_seq ix_s (se_var (i := 0) (t := .im) rfl (pv 0)) (se_int) (fun _ _ => rfl)) (sa_nil))).fz) ((sn_lc (own := [("one", 3)]) (u := .im) (t := .im) (tp := .nm 3) rfl sc.nd (si_im rfl (se_ix (ka := (.v .im)) (kb := (.v .im)) (ta := .im) (tb := .im) (t := .im) ix_seq ix_s (se_var (i := 0) (t := .im) rfl (pv 0)) (se_int) (fun _ _ => rfl))) (blkOk_by (N := ["term", "sort", "pair", "one", "step"]) (sc := defScope s_parts) (by decide +kernel)) (fun _ _ _ _ _ => gs_name (pg_name (i := 3) sc.nd rfl (by first | exact .inl rfl | exact .inr rfl))) (fun _ _ _ _ _ => pts_no) (fun _ _ _ _ _ => se_ix (ka := (.v .im)) (kb := (.v .im)) (ta := .im) (tb := .im) (t := .im) ix_seq ix_s (se_var (i := 3) (t := .im) rfl (pv 3)) (se_int) (fun _ _ => rfl))).fz)))) (sss_wR (Γ2 := [.fz .im, .fz .im, .un, .un, .un]) (sss_nil))) (sss_cons (ss_if (Γ' := [.fz .im, .fz .im, .un, .un, .un]) (st_cmp (ka := (.v .im)) (kb := (.v .im)) (op_eqP hu) eq_s (se_var (i := 1) (t := .im) rfl (pv 1)) (se_str) (nomark _)) (sss_one (ss_retN (sn_cat (ka := (.v (.L .im))) (kb := (.v (.L .im))) (ta := .im) (tb := .im) (t := .im) rfl ((sn_lst (ks := [.v .im]) (t := .im) (sa_cons (se_ix (ka := (.v .im)) (kb := (.v .im)) (ta := .im) (tb := .im) (t := .im) ix_seq ix_s (se_var (i := 0) (t := .im) rfl (pv 0)) (se_int) (fun _ _ => rfl)) (sa_nil))).fz) ((sn_lc (own := [("step", 4)]) (u := .im) (t := .im) (tp := .nm 4) rfl sc.nd (si_im rfl (se_ix (ka := (.v .im)) (kb := (.v .im)) (ta := .im) (tb := .im) (t := .im) ix_seq ix_s (se_var (i := 0) (t := .im) rfl (pv 0)) (se_int) (fun _ _ => rfl))) (blkOk_by (N := ["term", "sort", "pair", "one", "step"]) (sc := defScope s_parts) (by decide +kernel)) (fun _ _ _ _ _ => gs_name (pg_name (i := 4) sc.nd rfl (by first | exact .inl rfl | exact .inr rfl))) (fun _ _ _ _ _ => pts_no) (fun _ _ _ _ _ => se_ix (ka := (.v .im)) (kb := (.v .im)) (ta := .im) (tb := .im) (t := .im) ix_seq ix_s (se_var (i := 4) (t := .im) rfl (pv 4)) (se_un (ka := (.v .im)) un_neg neg_s (se_int)) (fun _ _ => rfl))).fz)))) (sss_wR (Γ2 := [.fz .im, .fz .im, .un, .un, .un]) (sss_nil))) (sss_one (ss_retN (sn_lst (ks := []) (t := .im) (sa_nil)))))))))))
theorem ok_bound_by (T : Txt K mg ad fd) (IH : ∀ g, FnOk P w K mg base CX0 k (ad g) (fd g) (ps g) (spF K XR0 (sg g) (rk g) (Fn k g))) : FnOk P w K mg base CX0 (k + 1) (ad .bound_by) (fd .bound_by) (ps .bound_by) (spF K XR0 (sg .bound_by) (rk .bound_by) (Fn (k + 1) .bound_by)) :=
  fn_body (fall := false) (β := b_bound_by (Fn k)) T.f_bound_by sc_bound_by rfl rfl rfl rfl fun cdv A outer s H E hr => by
    have sc := sc_bound_by
    have hu := hr.un
    have hu : (A.deeper (PyProof.Rows.envOfC "bound_by" (defScope s_bound_by) s.heap.objs.size (ad .bound_by) cdv)).units + 200 < cLine := by omega
    have hu1 : (A.deeper (PyProof.Rows.envOfC "bound_by" (defScope s_bound_by) s.heap.objs.size (ad .bound_by) cdv)).units + 1 < cLine := by omega
    exact sss_cons (ss_if (Γ' := [.fz .im, .un, .un, .un]) (st_cmp (ka := (.v .im)) (kb := (.v .im)) (op_eqP hu) eq_s (se_ix (ka := (.v .im)) (kb := (.v .im)) (ta := .im) (tb := .im) (t := .im) ix_seq ix_s (se_var (i := 0) (t := .im) rfl (pv 0)) (se_int) (fun _ _ => rfl)) (se_str) (nomark _)) (sss_one (ss_retN (sn_lst (ks := [.v .im]) (t := .im) (sa_cons (se_ix (ka := (.v .im)) (kb := (.v .im)) (ta := .im) (tb := .im) (t := .im) ix_seq ix_s (se_var (i := 0) (t := .im) rfl (pv 0)) (se_int) (fun _ _ => rfl)) (sa_nil))))) (sss_wR (Γ2 := [.fz .im, .un, .un, .un]) (sss_nil))) (sss_cons (ss_if (Γ' := [.fz .im, .un, .un, .un]) (st_cmp (ka := (.v .im)) (kb := (.v .im)) (op_eqP hu) eq_s (se_ix (ka := (.v .im)) (kb := (.v .im)) (ta := .im) (tb := .im) (t := .im) ix_seq ix_s (se_var (i := 0) (t := .im) rfl (pv 0)) (se_int) (fun _ _ => rfl)) (se_str) (nomark _)) (sss_one (ss_retN (sn_lc (own := [("pair", 3)]) (u := .im) (t := .im) (tp := .nm 3) rfl sc.nd (si_im rfl (se_ix (ka := (.v .im)) (kb := (.v .im)) (ta := .im) (tb := .im) (t := .im) ix_seq ix_s (se_var (i := 0) (t := .im) rfl (pv 0)) (se_int) (fun _ _ => rfl))) (blkOk_by (N := ["term", "names", "one", "pair"]) (sc := defScope s_bound_by) (by decide +kernel)) (fun _ _ _ _ _ => gs_name (pg_name (i := 3) sc.nd rfl (by first | exact .inl rfl | exact .inr rfl))) (fun _ _ _ _ _ => pts_no) (fun _ _ _ _ _ => se_ix (ka := (.v .im)) (kb := (.v .im)) (ta := .im) (tb := .im) (t := .im) ix_seq ix_s (se_var (i := 3) (t := .im) rfl (pv 3)) (se_int) (fun _ _ => rfl))))) (sss_wR (Γ2 := [.fz .im, .un, .un, .un]) (sss_nil))) (sss_cons (ss_setN (i := 1) sc.nd rfl (by first | exact .inl rfl | exact .inr rfl) (sn_lst (ks := []) (t := .im) (sa_nil))) (sss_cons (ss_if (Γ' := [.fz .im, .own (.L .im), .un, .un]) (st_cmp (ka := (.v .im)) (kb := (.v .im)) (op_eqP hu) eq_s (se_ix (ka := (.v .im)) (kb := (.v .im)) (ta := .im) (tb := .im) (t := .im) ix_seq ix_s (se_var (i := 0) (t := .im) rfl (pv 0)) (se_int) (fun _ _ => rfl)) (se_str) (nomark _)) (sss_wR (Γ2 := [.fz .im, .own (.L .im), .un, .un]) (sss_one (ss_for (Γ := [.fz .im, .own (.L .im), .un, .un]) (u := .im) (tp := .nm 2) PassesOwn.never rfl (si_im rfl (se_ix (ka := (.v .im)) (kb := (.v .im)) (ta := .im) (tb := .im) (t := .im) ix_seq ix_s (se_var (i := 0) (t := .im) rfl (pv 0)) (se_int) (fun _ _ => rfl))) (gs_name (pg_name (i := 2) sc.nd rfl (by first | exact .inl rfl | exact .inr rfl))) (sss_wR (Γ2 := [.fz .im, .own (.L .im), .un, .un]) (sss_one (ss_expr (t := .im) (se_ext (i := 1) (u := .im) (ta := .im) rfl (so_sl (i := 1) (t := (.L .im)) rfl (pv 1)) (se_ix (ka := (.v .im)) (kb := (.v .im)) (ta := .im) (tb := .im) (t := .im) ix_seq ix_s (se_var (i := 2) (t := .im) rfl (pv 2)) (se_int) (fun _ _ => rfl))))))))) (sss_wR (Γ2 := [.fz .im, .own (.L .im), .un, .un]) (sss_nil))) (sss_one (ss_retO (i := 1) (t := (.L .im)) (pv 1))))))
theorem ok_look_through (T : Txt K mg ad fd) (IH : ∀ g, FnOk P w K mg base CX0 k (ad g) (fd g) (ps g) (spF K XR0 (sg g) (rk g) (Fn k g))) : FnOk P w K mg base CX0 (k + 1) (ad .look_through) (fd .look_through) (ps .look_through) (spF K XR0 (sg .look_through) (rk .look_through) (Fn (k + 1) .look_through)) :=
  fn_body (fall := true) (β := b_look_through (Fn k)) T.f_look_through sc_look_through rfl rfl rfl rfl fun cdv A outer s H E hr => by
    have sc := sc_look_through
    have hu := hr.un
    have hu : (A.deeper (PyProof.Rows.envOfC "look_through" (defScope s_look_through) s.heap.objs.size (ad .look_through) cdv)).units + 200 < cLine := by omega
    have hu1 : (A.deeper (PyProof.Rows.envOfC "look_through" (defScope s_look_through) s.heap.objs.size (ad .look_through) cdv)).units + 1 < cLine := by omega
    exact sss_wR (Γ2 := [.un, .own (.M .im), .own (.M .im), .un, .un, .un]) (sss_cons (ss_for (Γ := [.fz .im, .own (.M .im), .own (.M .im), .un, .un, .un]) (u := .im) (tp := .nm 3) PassesOwn.never rfl (si_list (t := (.L .im)) rfl ((sn_call (sg := sg .bound_by) (ks := [.v .im]) (t := (.L .im)) (dds := []) (dvs := []) (IH .bound_by) hr (by rfl) T.m_bound_by T.k_bound_by T.b_bound_by .nil (passZ (E := E)) (fun _ _ _ _ z => z) (sa_cons (se_var (i := 0) (t := .im) rfl (pv 0)) (sa_nil)) (fun _ _ => rfl)).fz)) (gs_name (pg_name (i := 3) sc.nd rfl (by first | exact .inl rfl | exact .inr rfl))) (sss_wR (Γ2 := [.fz .im, .own (.M .im), .own (.M .im), .un, .un, .un]) (sss_one (ss_putD (i := 1) (t := .im) hu1 (so_sl (i := 1) (t := (.M .im)) rfl (pv 1)) (se_var (i := 3) (t := .im) rfl (pv 3)) (se_op (ka := (.v .im)) (kb := (.v .im)) op_addB add_s (se_dget2 (k := (.s 1)) (t := .im) hu1 (so_sl (i := 1) (t := (.M .im)) rfl (pv 1)) (se_var (i := 3) (t := .im) rfl (pv 3)) (se_int)) (se_int)))))) (sss_cons (ss_if (Γ' := [.fz .im, .own (.M .im), .own (.M .im), .un, .un, .un]) (st_cmp (ka := (.v .im)) (kb := (.v .im)) (op_eqP hu) eq_s (se_ix (ka := (.v .im)) (kb := (.v .im)) (ta := .im) (tb := .im) (t := .im) ix_seq ix_s (se_var (i := 0) (t := .im) rfl (pv 0)) (se_int) (fun _ _ => rfl)) (se_str) (nomark _)) (sss_wR (Γ2 := [.fz .im, .own (.M .im), .own (.M .im), .un, .un, .un]) (sss_one (ss_for (Γ := [.fz .im, .own (.M .im), .own (.M .im), .un, .un, .un]) (u := .im) (tp := .pr [.nm 3, .nm 4]) PassesOwn.never rfl (si_im rfl (se_ix (ka := (.v .im)) (kb := (.v .im)) (ta := .im) (tb := .im) (t := .im) ix_seq ix_s (se_var (i := 0) (t := .im) rfl (pv 0)) (se_int) (fun _ _ => rfl))) (gs_tup rfl rfl (gss_cons (gs_name (pg_name (i := 3) sc.nd rfl (by first | exact .inl rfl | exact .inr rfl))) (gss_cons (gs_name (pg_name (i := 4) sc.nd rfl (by first | exact .inl rfl | exact .inr rfl))) (gss_nil)))) (sss_wR (Γ2 := [.fz .im, .own (.M .im), .own (.M .im), .un, .un, .un]) (sss_one (ss_if (Γ' := [.fz .im, .own (.M .im), .own (.M .im), .fz .im, .fz .im, .un]) (st_cmp (ka := (.v .im)) (kb := (.v .im)) (op_eqP hu) eq_s (se_ix (ka := (.v .im)) (kb := (.v .im)) (ta := .im) (tb := .im) (t := .im) ix_seq ix_s (se_var (i := 4) (t := .im) rfl (pv 4)) (se_int) (fun _ _ => rfl)) (se_str) (nomark _)) (sss_wR (Γ2 := [.fz .im, .own (.M .im), .own (.M .im), .fz .im, .fz .im, .un]) (sss_one (ss_putD (i := 2) (t := .im) hu1 (so_sl (i := 2) (t := (.M .im)) rfl (pv 2)) (se_var (i := 3) (t := .im) rfl (pv 3)) (se_var (i := 4) (t := .im) rfl (pv 4))))) (sss_wR (Γ2 := [.fz .im, .own (.M .im), .own (.M .im), .fz .im, .fz .im, .un]) (sss_nil)))))))) (sss_wR (Γ2 := [.fz .im, .own (.M .im), .own (.M .im), .un, .un, .un]) (sss_nil))) (sss_one (ss_for (Γ := [.fz .im, .own (.M .im), .own (.M .im), .un, .un, .un]) (u := .im) (tp := .nm 5) PassesOwn.never rfl (si_list (t := (.L .im)) rfl ((sn_call (sg := sg .parts) (ks := [.v .im]) (t := (.L .im)) (dds := []) (dvs := []) (IH .parts) hr (by rfl) T.m_parts T.k_parts T.b_parts .nil (passZ (E := E)) (fun _ _ _ _ z => z) (sa_cons (se_var (i := 0) (t := .im) rfl (pv 0)) (sa_nil)) (fun _ _ => rfl)).fz)) (gs_name (pg_name (i := 5) sc.nd rfl (by first | exact .inl rfl | exact .inr rfl))) (sss_wR (Γ2 := [.fz .im, .own (.M .im), .own (.M .im), .un, .un, .un]) (sss_one (ss_expr (t := .im) (se_call (sg := sg .look_through) (ks := [.v .im, .o 1, .o 2]) (t := .im) (dds := []) (dvs := []) (IH .look_through) hr (by rfl) T.m_look_through T.k_look_through T.b_look_through .nil (passZ (E := E)) (fun _ _ _ _ z => z) (sa_cons (se_var (i := 5) (t := .im) rfl (pv 5)) (sa_o (so_sl (i := 1) (t := (.M .im)) rfl (pv 1)) (sa_o (so_sl (i := 2) (t := (.M .im)) rfl (pv 2)) (sa_nil)))) (fun _ _ => rfl)))))))))
theorem ok_sole_rows (T : Txt K mg ad fd) (IH : ∀ g, FnOk P w K mg base CX0 k (ad g) (fd g) (ps g) (spF K XR0 (sg g) (rk g) (Fn k g))) : FnOk P w K mg base CX0 (k + 1) (ad .sole_rows) (fd .sole_rows) (ps .sole_rows) (spF K XR0 (sg .sole_rows) (rk .sole_rows) (Fn (k + 1) .sole_rows)) :=
  fn_body (fall := false) (β := b_sole_rows (Fn k)) T.f_sole_rows sc_sole_rows rfl rfl rfl rfl fun cdv A outer s H E hr => by
    have sc := sc_sole_rows
    have hu := hr.un
    have hu : (A.deeper (PyProof.Rows.envOfC "sole_rows" (defScope s_sole_rows) s.heap.objs.size (ad .sole_rows) cdv)).units + 200 < cLine := by omega
    have hu1 : (A.deeper (PyProof.Rows.envOfC "sole_rows" (defScope s_sole_rows) s.heap.objs.size (ad .sole_rows) cdv)).units + 1 < cLine := by omega
    exact sss_cons (ss_setN (i := 1) sc.nd rfl (by first | exact .inl rfl | exact .inr rfl) (sn_dic0 (t := .im))) (sss_cons (ss_setN (i := 2) sc.nd rfl (by first | exact .inl rfl | exact .inr rfl) (sn_dic0 (t := .im))) (sss_cons (ss_expr (t := .im) (se_call (sg := sg .look_through) (ks := [.v .im, .o 1, .o 2]) (t := .im) (dds := []) (dvs := []) (IH .look_through) hr (by rfl) T.m_look_through T.k_look_through T.b_look_through .nil (passZ (E := E)) (fun _ _ _ _ z => z) (sa_cons (se_var (i := 0) (t := .im) rfl (pv 0)) (sa_o (so_sl (i := 1) (t := (.M .im)) rfl (pv 1)) (sa_o (so_sl (i := 2) (t := (.M .im)) rfl (pv 2)) (sa_nil)))) (fun _ _ => rfl))) (sss_cons (ss_wL (Γ := [.fz .im, .own (.M .im), .own (.M .im), .un, .un, .un]) (Γ1 := [.fz .im, .fz (.M .im), .fz (.M .im), .un, .un, .un]) (ss_setN (i := 3) sc.nd rfl (by first | exact .inl rfl | exact .inr rfl) (sn_dic0 (t := (.T [(.L .im), .im]))))) (sss_cons (ss_forD (Γ := [.fz .im, .fz (.M .im), .fz (.M .im), .own (.M (.T [(.L .im), .im])), .un, .un]) (i := 2) (t := .im) (u := (.T [.im, .im])) (tp := .pr [.nm 4, .nm 5]) PassesOwn.never rfl (pi_itemsD (i := 2) (pv 2)) itD_items rfl (fun _ _ _ _ _ h => h) (gs_tup rfl rfl (gss_cons (gs_name (pg_name (i := 4) sc.nd rfl (by first | exact .inl rfl | exact .inr rfl))) (gss_cons (gs_name (pg_name (i := 5) sc.nd rfl (by first | exact .inl rfl | exact .inr rfl))) (gss_nil)))) (sss_wR (Γ2 := [.fz .im, .fz (.M .im), .fz (.M .im), .own (.M (.T [(.L .im), .im])), .un, .un]) (sss_one (ss_if (Γ' := [.fz .im, .fz (.M .im), .fz (.M .im), .own (.M (.T [(.L .im), .im])), .fz .im, .fz .im]) (st_cmp (ka := (.v .im)) (kb := (.v .im)) (op_eqP hu) eq_s (se_dget (ka := (.v (.M .im))) (kb := (.v .im)) (t := .im) hu1 (se_var (i := 1) (t := (.M .im)) rfl (pv 1)) (se_var (i := 4) (t := .im) rfl (pv 4))) (se_int) (nomark _)) (sss_wR (Γ2 := [.fz .im, .fz (.M .im), .fz (.M .im), .own (.M (.T [(.L .im), .im])), .fz .im, .fz .im]) (sss_one (ss_putD (i := 3) (t := (.T [(.L .im), .im])) hu1 (so_sl (i := 3) (t := (.M (.T [(.L .im), .im]))) rfl (pv 3)) (se_var (i := 4) (t := .im) rfl (pv 4)) (se_call (sg := sg .row_of) (ks := [.v .im]) (t := (.T [(.L .im), .im])) (dds := []) (dvs := []) (IH .row_of) hr (by rfl) T.m_row_of T.k_row_of T.b_row_of .nil (passZ (E := E)) (fun _ _ _ _ z => z) (sa_cons (se_var (i := 5) (t := .im) rfl (pv 5)) (sa_nil)) (fun _ _ => rfl))))) (sss_wR (Γ2 := [.fz .im, .fz (.M .im), .fz (.M .im), .own (.M (.T [(.L .im), .im])), .fz .im, .fz .im]) (sss_nil)))))) (sss_one (ss_retO (i := 3) (t := (.M (.T [(.L .im), .im]))) (pv 3)))))))
theorem ok_sole (T : Txt K mg ad fd) (IH : ∀ g, FnOk P w K mg base CX0 k (ad g) (fd g) (ps g) (spF K XR0 (sg g) (rk g) (Fn k g))) : FnOk P w K mg base CX0 (k + 1) (ad .sole) (fd .sole) (ps .sole) (spF K XR0 (sg .sole) (rk .sole) (Fn (k + 1) .sole)) :=
  fn_body (fall := false) (β := b_sole (Fn k)) T.f_sole sc_sole rfl rfl rfl rfl fun cdv A outer s H E hr => by
    have sc := sc_sole
    have hu := hr.un
    have hu : (A.deeper (PyProof.Rows.envOfC "sole" (defScope s_sole) s.heap.objs.size (ad .sole) cdv)).units + 200 < cLine := by omega
    have hu1 : (A.deeper (PyProof.Rows.envOfC "sole" (defScope s_sole) s.heap.objs.size (ad .sole) cdv)).units + 1 < cLine := by omega
    exact sss_cons (ss_setN (i := 1) sc.nd rfl (by first | exact .inl rfl | exact .inr rfl) (sn_dic0 (t := .im))) (sss_cons (ss_for (Γ := [.fz .im, .own (.M .im), .un, .un]) (u := (.T [.im, (.T [(.L .im), .im])])) (tp := .pr [.nm 2, .nm 3]) PassesOwn.never rfl (si_itemsN (t := (.T [(.L .im), .im])) (sn_call (sg := sg .sole_rows) (ks := [.v .im]) (t := (.M (.T [(.L .im), .im]))) (dds := []) (dvs := []) (IH .sole_rows) hr (by rfl) T.m_sole_rows T.k_sole_rows T.b_sole_rows .nil (passZ (E := E)) (fun _ _ _ _ z => z) (sa_cons (se_var (i := 0) (t := .im) rfl (pv 0)) (sa_nil)) (fun _ _ => rfl))) (gs_tup rfl rfl (gss_cons (gs_name (pg_name (i := 2) sc.nd rfl (by first | exact .inl rfl | exact .inr rfl))) (gss_cons (gs_name (pg_name (i := 3) sc.nd rfl (by first | exact .inl rfl | exact .inr rfl))) (gss_nil)))) (sss_wR (Γ2 := [.fz .im, .own (.M .im), .un, .un]) (sss_one (ss_putD (i := 1) (t := .im) hu1 (so_sl (i := 1) (t := (.M .im)) rfl (pv 1)) (se_var (i := 2) (t := .im) rfl (pv 2)) (se_cb (ks := [.v (.L .im)]) (t := .im) call_len len_s (by rfl) T.z_len (by decide +kernel) (sa_cons (se_ix (ka := (.v (.T [(.L .im), .im]))) (kb := (.v .im)) ix_seq (ixAt_s (j := 0) (t := (.L .im)) rfl) (se_var (i := 3) (t := (.T [(.L .im), .im])) rfl (pv 3)) (se_int) (fun _ _ => rfl)) (sa_nil))))))) (sss_one (ss_retO (i := 1) (t := (.M .im)) (pv 1))))
theorem ok__law_next (T : Txt K mg ad fd) (IH : ∀ g, FnOk P w K mg base CX0 k (ad g) (fd g) (ps g) (spF K XR0 (sg g) (rk g) (Fn k g))) : FnOk P w K mg base CX0 (k + 1) (ad ._law_next) (fd ._law_next) (ps ._law_next) (spF K XR0 (sg ._law_next) (rk ._law_next) (Fn (k + 1) ._law_next)) :=
  fn_body (fall := false) (β := b__law_next (Fn k)) T.f__law_next sc__law_next rfl rfl rfl rfl fun cdv A outer s H E hr => by
    have sc := sc__law_next
    have hu := hr.un
    have hu : (A.deeper (PyProof.Rows.envOfC "_law_next" (defScope s__law_next) s.heap.objs.size (ad ._law_next) cdv)).units + 200 < cLine := by omega
    have hu1 : (A.deeper (PyProof.Rows.envOfC "_law_next" (defScope s__law_next) s.heap.objs.size (ad ._law_next) cdv)).units + 1 < cLine := by omega
    exact sss_cons (ss_set (i := 1) sc.nd rfl (by first | exact .inl rfl | exact .inr rfl) (se_ix (ka := (.s 0)) (kb := (.v .im)) (ta := (.L .any)) (tb := .im) (t := .any) ix_seq ix_s (so_sl (i := 0) (t := (.L .any)) rfl (pv 0)) (se_int) (fun _ _ => rfl))) (sss_cons (ss_put (i := 0) (t := .any) (so_sl (i := 0) (t := (.L .any)) rfl (pv 0)) (se_int) (se_op (ka := (.v .any)) (kb := (.v .im)) op_add addI_s (se_var (i := 1) (t := .any) rfl (pv 1)) (se_int))) (sss_cons (ss_if (Γ' := [.own (.L .any), .fz .any, .un]) (st_cmp (ka := (.v .any)) (kb := (.v .im)) op_lt lt_s (se_var (i := 1) (t := .any) rfl (pv 1)) (se_cb (ks := [.v .any]) (t := .im) call_len len_s (by rfl) T.z_len (by decide +kernel) (sa_cons (se_ix (ka := (.s 0)) (kb := (.v .im)) (ta := (.L .any)) (tb := .im) (t := .any) ix_seq ix_s (so_sl (i := 0) (t := (.L .any)) rfl (pv 0)) (se_int) (fun _ _ => rfl)) (sa_nil))) (nomark _)) (sss_one (ss_ret (se_op (ka := (.v .any)) (kb := (.v .im)) op_mod mod_s (se_ix (ka := (.v .any)) (kb := (.v .any)) (ta := .any) (tb := .any) (t := .any) ix_seq ix_s (se_ix (ka := (.s 0)) (kb := (.v .im)) (ta := (.L .any)) (tb := .im) (t := .any) ix_seq ix_s (so_sl (i := 0) (t := (.L .any)) rfl (pv 0)) (se_int) (fun _ _ => rfl)) (se_var (i := 1) (t := .any) rfl (pv 1)) (fun _ _ => rfl)) (se_int)))) (sss_wR (Γ2 := [.own (.L .any), .fz .any, .un]) (sss_nil))) (sss_cons (ss_set (i := 2) sc.nd rfl (by first | exact .inl rfl | exact .inr rfl) (se_op (ka := (.v .im)) (kb := (.v .im)) op_mod mod_s (se_op (ka := (.v .im)) (kb := (.v .im)) op_addB add_s (se_op (ka := (.v .im)) (kb := (.v .im)) op_addB add_s (se_op (ka := (.v .any)) (kb := (.v .im)) op_mulB mul_s (se_var (i := 1) (t := .any) rfl (pv 1)) (se_int)) (se_op (ka := (.v .any)) (kb := (.v .im)) op_mulB mul_s (se_ix (ka := (.s 0)) (kb := (.v .im)) (ta := (.L .any)) (tb := .im) (t := .any) ix_seq ix_s (so_sl (i := 0) (t := (.L .any)) rfl (pv 0)) (se_int) (fun _ _ => rfl)) (se_int))) (se_int)) (se_int))) (sss_one (ss_ret (se_op (ka := (.v .im)) (kb := (.v .im)) op_mod mod_s (se_op (ka := (.v .im)) (kb := (.v .im)) op_mulB mul_s (se_var (i := 2) (t := .im) rfl (pv 2)) (se_var (i := 2) (t := .im) rfl (pv 2))) (se_int)))))))
theorem ok__law_state (T : Txt K mg ad fd) (IH : ∀ g, FnOk P w K mg base CX0 k (ad g) (fd g) (ps g) (spF K XR0 (sg g) (rk g) (Fn k g))) : FnOk P w K mg base CX0 (k + 1) (ad ._law_state) (fd ._law_state) (ps ._law_state) (spF K XR0 (sg ._law_state) (rk ._law_state) (Fn (k + 1) ._law_state)) :=
  fn_body (fall := false) (β := b__law_state (Fn k)) T.f__law_state sc__law_state rfl rfl rfl rfl fun cdv A outer s H E hr => by
    have sc := sc__law_state
    have hu := hr.un
    have hu : (A.deeper (PyProof.Rows.envOfC "_law_state" (defScope s__law_state) s.heap.objs.size (ad ._law_state) cdv)).units + 200 < cLine := by omega
    have hu1 : (A.deeper (PyProof.Rows.envOfC "_law_state" (defScope s__law_state) s.heap.objs.size (ad ._law_state) cdv)).units + 1 < cLine := by omega
    exact sss_cons (ss_set (i := 2) sc.nd rfl (by first | exact .inl rfl | exact .inr rfl) (se_int)) (sss_cons (ss_for (Γ := [.fz (.L .im), .fz .im, .fz .im, .un]) (u := .im) (tp := .nm 3) PassesOwn.never rfl (si_list (t := (.L .im)) rfl ((sn_sl (k := (.v (.L .im))) (t := .im) rfl (se_var (i := 0) (t := (.L .im)) rfl (pv 0)) (sp_none) (sp_some (se_int))).fz)) (gs_name (pg_name (i := 3) sc.nd rfl (by first | exact .inl rfl | exact .inr rfl))) (sss_wR (Γ2 := [.fz (.L .im), .fz .im, .fz .im, .un]) (sss_one (ss_set (i := 2) sc.nd rfl (by first | exact .inl rfl | exact .inr rfl) (se_op (ka := (.v .im)) (kb := (.v .im)) op_mod mod_s (se_op (ka := (.v .im)) (kb := (.v .im)) op_addB add_s (se_op (ka := (.v .im)) (kb := (.v .im)) op_mulB mul_s (se_var (i := 2) (t := .im) rfl (pv 2)) (se_int)) (se_var (i := 3) (t := .im) rfl (pv 3))) (se_int)))))) (sss_one (ss_retN (sn_lst (ks := [.v .im, .v (.L .im), .v .im, .v .im]) (t := .any) (sa_cons (se_int) (sa_cons (se_var (i := 0) (t := (.L .im)) rfl (pv 0)) (sa_cons (se_var (i := 1) (t := .im) rfl (pv 1)) (sa_cons (se_var (i := 2) (t := .im) rfl (pv 2)) (sa_nil)))))))))
theorem ok__law_pool (T : Txt K mg ad fd) (IH : ∀ g, FnOk P w K mg base CX0 k (ad g) (fd g) (ps g) (spF K XR0 (sg g) (rk g) (Fn k g))) : FnOk P w K mg base CX0 (k + 1) (ad ._law_pool) (fd ._law_pool) (ps ._law_pool) (spF K XR0 (sg ._law_pool) (rk ._law_pool) (Fn (k + 1) ._law_pool)) :=
  fn_body (fall := false) (β := b__law_pool (Fn k)) T.f__law_pool sc__law_pool rfl rfl rfl rfl fun cdv A outer s H E hr => by
    have sc := sc__law_pool
    have hu := hr.un
    have hu : (A.deeper (PyProof.Rows.envOfC "_law_pool" (defScope s__law_pool) s.heap.objs.size (ad ._law_pool) cdv)).units + 200 < cLine := by omega
    have hu1 : (A.deeper (PyProof.Rows.envOfC "_law_pool" (defScope s__law_pool) s.heap.objs.size (ad ._law_pool) cdv)).units + 1 < cLine := by omega
    exact sss_cons (ss_set (i := 2) sc.nd rfl (by first | exact .inl rfl | exact .inr rfl) (se_str)) (sss_cons (ss_set (i := 3) sc.nd rfl (by first | exact .inl rfl | exact .inr rfl) (se_op (ka := (.v .im)) (kb := (.v .im)) op_addB add_s (se_int) (se_op (ka := (.v .im)) (kb := (.v .im)) op_mod mod_s (se_var (i := 0) (t := .im) rfl (pv 0)) (se_int)))) (sss_cons (ss_set (i := 4) sc.nd rfl (by first | exact .inl rfl | exact .inr rfl) (se_op (ka := (.v .im)) (kb := (.v .im)) op_mod mod_s (se_op (ka := (.v .im)) (kb := (.v .im)) op_fdivW div_s (se_var (i := 0) (t := .im) rfl (pv 0)) (se_int)) (se_var (i := 3) (t := .im) rfl (pv 3)))) (sss_cons (ss_setN (i := 5) sc.nd rfl (by first | exact .inl rfl | exact .inr rfl) (sn_lst (ks := []) (t := .im) (sa_nil))) (sss_cons (ss_for (Γ := [.fz .im, .fz .im, .fz .im, .fz .im, .fz .im, .own (.L .im), .un, .un, .un]) (u := .im) (tp := .nm 6) PassesOwn.never rfl (si_rg1 (by rfl) T.z_range (sa_cons (se_var (i := 1) (t := .im) rfl (pv 1)) (sa_nil))) (gs_name (pg_name (i := 6) sc.nd rfl (by first | exact .inl rfl | exact .inr rfl))) (sss_wR (Γ2 := [.fz .im, .fz .im, .fz .im, .fz .im, .fz .im, .own (.L .im), .un, .un, .un]) (sss_cons (ss_set (i := 7) sc.nd rfl (by first | exact .inl rfl | exact .inr rfl) (se_str)) (sss_cons (ss_for (Γ := [.fz .im, .fz .im, .fz .im, .fz .im, .fz .im, .own (.L .im), .fz .im, .fz .im, .un]) (u := .im) (tp := .nm 8) PassesOwn.never rfl (si_rg1 (by rfl) T.z_range (sa_cons (se_var (i := 3) (t := .im) rfl (pv 3)) (sa_nil))) (gs_name (pg_name (i := 8) sc.nd rfl (by first | exact .inl rfl | exact .inr rfl))) (sss_wR (Γ2 := [.fz .im, .fz .im, .fz .im, .fz .im, .fz .im, .own (.L .im), .fz .im, .fz .im, .un]) (sss_one (ss_if (Γ' := [.fz .im, .fz .im, .fz .im, .fz .im, .fz .im, .own (.L .im), .fz .im, .fz .im, .fz .im]) (st_cmp (ka := (.v .im)) (kb := (.v .im)) (op_eqP hu) eq_s (se_var (i := 8) (t := .im) rfl (pv 8)) (se_var (i := 4) (t := .im) rfl (pv 4)) (nomark _)) (sss_wR (Γ2 := [.fz .im, .fz .im, .fz .im, .fz .im, .fz .im, .own (.L .im), .fz .im, .fz .im, .fz .im]) (sss_one (ss_set (i := 7) sc.nd rfl (by first | exact .inl rfl | exact .inr rfl) (se_op (ka := (.v .im)) (kb := (.v .im)) op_addB add_s (se_var (i := 7) (t := .im) rfl (pv 7)) (se_ix (ka := (.v .im)) (kb := (.v .im)) (ta := .im) (tb := .im) (t := .im) ix_seq ix_s (se_var (i := 2) (t := .im) rfl (pv 2)) (se_op (ka := (.v .im)) (kb := (.v .im)) op_mod mod_s (se_op (ka := (.v .im)) (kb := (.v .im)) op_addB add_s (se_op (ka := (.v .im)) (kb := (.v .im)) op_fdivW div_s (se_var (i := 0) (t := .im) rfl (pv 0)) (se_int)) (se_var (i := 6) (t := .im) rfl (pv 6))) (se_int)) (fun _ _ => rfl)))))) (sss_wR (Γ2 := [.fz .im, .fz .im, .fz .im, .fz .im, .fz .im, .own (.L .im), .fz .im, .fz .im, .fz .im]) (sss_one (ss_set (i := 7) sc.nd rfl (by first | exact .inl rfl | exact .inr rfl) (se_op (ka := (.v .im)) (kb := (.v .im)) op_addB add_s (se_var (i := 7) (t := .im) rfl (pv 7)) (se_ix (ka := (.v .im)) (kb := (.v .im)) (ta := .im) (tb := .im) (t := .im) ix_seq ix_s (se_var (i := 2) (t := .im) rfl (pv 2)) (se_op (ka := (.v .im)) (kb := (.v .im)) op_mod mod_s (se_op (ka := (.v .im)) (kb := (.v .im)) op_fdivW div_s (se_var (i := 0) (t := .im) rfl (pv 0)) (se_op (ka := (.v .im)) (kb := (.v .im)) op_addB add_s (se_int) (se_op (ka := (.v .im)) (kb := (.v .im)) op_mulB mul_s (se_int) (se_var (i := 8) (t := .im) rfl (pv 8))))) (se_ix (ka := (.v (.L .im))) (kb := (.v .im)) (ta := (.L .im)) (tb := .im) (t := .im) ix_seq ix_s ((sn_lst (ks := [.v .im, .v .im]) (t := .im) (sa_cons (se_int) (sa_cons (se_int) (sa_nil)))).fz) (se_ct (ks := [.v .im]) (t := .im) call_int1 int_s (by rfl) T.z_int (by decide +kernel) (sa_cons (se_cmp (ka := (.v .im)) (kb := (.v .im)) (op_eqP hu) eq_s (se_var (i := 8) (t := .im) rfl (pv 8)) (se_int) (nomark _)) (sa_nil))) (fun _ _ => rfl))) (fun _ _ => rfl)))))))))) (sss_cons (ss_if (Γ' := [.fz .im, .fz .im, .fz .im, .fz .im, .fz .im, .own (.L .im), .fz .im, .fz .im, .un]) (st_cmp (ka := (.v .im)) (kb := (.v .im)) (op_inB hu) (in_s false) (se_var (i := 7) (t := .im) rfl (pv 7)) (se_tup (ks := [.v .im, .v .im, .v .im, .v .im, .v .im, .v .im, .v .im, .v .im, .v .im]) (t := .im) (sa_cons (se_str) (sa_cons (se_str) (sa_cons (se_str) (sa_cons (se_str) (sa_cons (se_str) (sa_cons (se_str) (sa_cons (se_str) (sa_cons (se_str) (sa_cons (se_str) (sa_nil))))))))))) rfl) (sss_wR (Γ2 := [.fz .im, .fz .im, .fz .im, .fz .im, .fz .im, .own (.L .im), .fz .im, .fz .im, .un]) (sss_one (ss_set (i := 7) sc.nd rfl (by first | exact .inl rfl | exact .inr rfl) (se_op (ka := (.v .im)) (kb := (.v .im)) op_addB add_s (se_var (i := 7) (t := .im) rfl (pv 7)) (se_str))))) (sss_wR (Γ2 := [.fz .im, .fz .im, .fz .im, .fz .im, .fz .im, .own (.L .im), .fz .im, .fz .im, .un]) (sss_nil))) (sss_one (ss_expr (t := .im) (se_app (i := 5) (ta := .im) rfl (so_sl (i := 5) (t := (.L .im)) rfl (pv 5)) (se_var (i := 7) (t := .im) rfl (pv 7)))))))))) (sss_one (ss_retO (i := 5) (t := (.L .im)) (pv 5)))))))
theorem ok__law_leaf (T : Txt K mg ad fd) (IH : ∀ g, FnOk P w K mg base CX0 k (ad g) (fd g) (ps g) (spF K XR0 (sg g) (rk g) (Fn k g))) : FnOk P w K mg base CX0 (k + 1) (ad ._law_leaf) (fd ._law_leaf) (ps ._law_leaf) (spF K XR0 (sg ._law_leaf) (rk ._law_leaf) (Fn (k + 1) ._law_leaf)) :=
  fn_body (fall := false) (β := b__law_leaf (Fn k)) T.f__law_leaf sc__law_leaf rfl rfl rfl rfl fun cdv A outer s H E hr => by
    have sc := sc__law_leaf
    have hu := hr.un
    have hu : (A.deeper (PyProof.Rows.envOfC "_law_leaf" (defScope s__law_leaf) s.heap.objs.size (ad ._law_leaf) cdv)).units + 200 < cLine := by omega
    have hu1 : (A.deeper (PyProof.Rows.envOfC "_law_leaf" (defScope s__law_leaf) s.heap.objs.size (ad ._law_leaf) cdv)).units + 1 < cLine := by omega
    exact sss_cons (ss_if (Γ' := [.fz .im, .fz (.L .im), .fz (.L .im), .un]) (st_w (sw_and (st_cmp (ka := (.v .im)) (kb := (.v .im)) op_lt lt_s (se_op (ka := (.v .im)) (kb := (.v .im)) op_mod mod_s (se_var (i := 0) (t := .im) rfl (pv 0)) (se_int)) (se_int) (nomark _)) (sw_and1 (st_cmp (ka := (.v .im)) (kb := (.v .im)) op_gt gt_s (se_cb (ks := [.v (.L .im)]) (t := .im) call_len len_s (by rfl) T.z_len (by decide +kernel) (sa_cons (se_var (i := 2) (t := (.L .im)) rfl (pv 2)) (sa_nil))) (se_int) (nomark _))))) (sss_one (ss_ret (se_tup (ks := [.v .im, .v .im]) (t := .im) (sa_cons (se_str) (sa_cons (se_ix (ka := (.v (.L .im))) (kb := (.v .im)) (ta := (.L .im)) (tb := .im) (t := .im) ix_seq ix_s (se_var (i := 2) (t := (.L .im)) rfl (pv 2)) (se_op (ka := (.v .im)) (kb := (.v .im)) op_sub sub_s (se_un (ka := (.v .im)) un_neg neg_s (se_int)) (se_op (ka := (.v .im)) (kb := (.v .im)) op_mod mod_s (se_op (ka := (.v .im)) (kb := (.v .im)) op_fdivW div_s (se_var (i := 0) (t := .im) rfl (pv 0)) (se_int)) (se_cb (ks := [.v .im, .v .im]) (t := .im) (call_min2 rfl) min_s (by rfl) T.z_min (by decide +kernel) (sa_cons (se_int) (sa_cons (se_cb (ks := [.v (.L .im)]) (t := .im) call_len len_s (by rfl) T.z_len (by decide +kernel) (sa_cons (se_var (i := 2) (t := (.L .im)) rfl (pv 2)) (sa_nil))) (sa_nil)))))) (fun _ _ => rfl)) (sa_nil)))))) (sss_wR (Γ2 := [.fz .im, .fz (.L .im), .fz (.L .im), .un]) (sss_nil))) (sss_cons (ss_if (Γ' := [.fz .im, .fz (.L .im), .fz (.L .im), .un]) (st_w (sw_and (st_cmp (ka := (.v .im)) (kb := (.v .im)) op_lt lt_s (se_op (ka := (.v .im)) (kb := (.v .im)) op_mod mod_s (se_var (i := 0) (t := .im) rfl (pv 0)) (se_int)) (se_int) (nomark _)) (sw_and1 (st_cmp (ka := (.v .im)) (kb := (.v .im)) op_gt gt_s (se_cb (ks := [.v (.L .im)]) (t := .im) call_len len_s (by rfl) T.z_len (by decide +kernel) (sa_cons (se_var (i := 2) (t := (.L .im)) rfl (pv 2)) (sa_nil))) (se_int) (nomark _))))) (sss_one (ss_ret (se_tup (ks := [.v .im, .v .im]) (t := .im) (sa_cons (se_str) (sa_cons (se_ix (ka := (.v (.L .im))) (kb := (.v .im)) (ta := (.L .im)) (tb := .im) (t := .im) ix_seq ix_s (se_var (i := 2) (t := (.L .im)) rfl (pv 2)) (se_op (ka := (.v .im)) (kb := (.v .im)) op_mod mod_s (se_op (ka := (.v .im)) (kb := (.v .im)) op_fdivW div_s (se_var (i := 0) (t := .im) rfl (pv 0)) (se_int)) (se_cb (ks := [.v (.L .im)]) (t := .im) call_len len_s (by rfl) T.z_len (by decide +kernel) (sa_cons (se_var (i := 2) (t := (.L .im)) rfl (pv 2)) (sa_nil)))) (fun _ _ => rfl)) (sa_nil)))))) (sss_wR (Γ2 := [.fz .im, .fz (.L .im), .fz (.L .im), .un]) (sss_nil))) (sss_cons (ss_if (Γ' := [.fz .im, .fz (.L .im), .fz (.L .im), .un]) (st_cmp (ka := (.v .im)) (kb := (.v .im)) (op_eqP hu) eq_s (se_op (ka := (.v .im)) (kb := (.v .im)) op_mod mod_s (se_var (i := 0) (t := .im) rfl (pv 0)) (se_int)) (se_int) (nomark _)) (sss_one (ss_ret (se_tup (ks := [.v .im, .v .im]) (t := .im) (sa_cons (se_str) (sa_cons (se_ix (ka := (.v (.L .im))) (kb := (.v .im)) (ta := (.L .im)) (tb := .im) (t := .im) ix_seq ix_s (se_var (i := 1) (t := (.L .im)) rfl (pv 1)) (se_op (ka := (.v .im)) (kb := (.v .im)) op_mod mod_s (se_op (ka := (.v .im)) (kb := (.v .im)) op_fdivW div_s (se_var (i := 0) (t := .im) rfl (pv 0)) (se_int)) (se_cb (ks := [.v (.L .im)]) (t := .im) call_len len_s (by rfl) T.z_len (by decide +kernel) (sa_cons (se_var (i := 1) (t := (.L .im)) rfl (pv 1)) (sa_nil)))) (fun _ _ => rfl)) (sa_nil)))))) (sss_wR (Γ2 := [.fz .im, .fz (.L .im), .fz (.L .im), .un]) (sss_nil))) (sss_cons (ss_set (i := 3) sc.nd rfl (by first | exact .inl rfl | exact .inr rfl) ((sn_lst (ks := [.v .im, .v .im, .v .im, .v .im]) (t := .im) (sa_cons (se_tup (ks := [.v .im, .v .im]) (t := .im) (sa_cons (se_str) (sa_cons (se_op (ka := (.v .im)) (kb := (.v .im)) op_fdivW div_s (se_var (i := 0) (t := .im) rfl (pv 0)) (se_int)) (sa_nil)))) (sa_cons (se_tup (ks := [.v .im, .v .im, .v .im]) (t := .im) (sa_cons (se_str) (sa_cons (se_str) (sa_cons (se_tup (ks := []) (t := .im) (sa_nil)) (sa_nil))))) (sa_cons (se_tup (ks := [.v .im, .v .im]) (t := .im) (sa_cons (se_str) (sa_cons (se_op (ka := (.v .im)) (kb := (.v .im)) op_mod mod_s (se_op (ka := (.v .im)) (kb := (.v .im)) op_fdivW div_s (se_var (i := 0) (t := .im) rfl (pv 0)) (se_int)) (se_int)) (sa_nil)))) (sa_cons (se_tup (ks := [.v .im, .v .im, .v .im]) (t := .im) (sa_cons (se_str) (sa_cons (se_str) (sa_cons (se_tup (ks := []) (t := .im) (sa_nil)) (sa_nil))))) (sa_nil)))))).fz)) (sss_one (ss_ret (se_ix (ka := (.v (.L .im))) (kb := (.v .im)) (ta := (.L .im)) (tb := .im) (t := .im) ix_seq ix_s (se_var (i := 3) (t := (.L .im)) rfl (pv 3)) (se_op (ka := (.v .im)) (kb := (.v .im)) op_mod mod_s (se_op (ka := (.v .im)) (kb := (.v .im)) op_fdivW div_s (se_var (i := 0) (t := .im) rfl (pv 0)) (se_int)) (se_int)) (fun _ _ => rfl)))))))
theorem ok__law_choose (T : Txt K mg ad fd) (IH : ∀ g, FnOk P w K mg base CX0 k (ad g) (fd g) (ps g) (spF K XR0 (sg g) (rk g) (Fn k g))) : FnOk P w K mg base CX0 (k + 1) (ad ._law_choose) (fd ._law_choose) (ps ._law_choose) (spF K XR0 (sg ._law_choose) (rk ._law_choose) (Fn (k + 1) ._law_choose)) :=
  fn_body (fall := false) (β := b__law_choose (Fn k)) T.f__law_choose sc__law_choose rfl rfl rfl rfl fun cdv A outer s H E hr => by
    have sc := sc__law_choose
    have hu := hr.un
    have hu : (A.deeper (PyProof.Rows.envOfC "_law_choose" (defScope s__law_choose) s.heap.objs.size (ad ._law_choose) cdv)).units + 200 < cLine := by omega
    have hu1 : (A.deeper (PyProof.Rows.envOfC "_law_choose" (defScope s__law_choose) s.heap.objs.size (ad ._law_choose) cdv)).units + 1 < cLine := by omega
    exact sss_cons (ss_set (i := 5) sc.nd rfl (by first | exact .inl rfl | exact .inr rfl) (se_call (sg := sg ._law_next) (ks := [.o 0]) (t := .im) (dds := []) (dvs := []) (IH ._law_next) hr (by rfl) T.m__law_next T.k__law_next T.b__law_next .nil (passZ (E := E)) (fun _ _ _ _ z => z) (sa_o (so_sl (i := 0) (t := (.L .any)) rfl (pv 0)) (sa_nil)) (fun _ _ => rfl))) (sss_cons (ss_set (i := 6) sc.nd rfl (by first | exact .inl rfl | exact .inr rfl) (se_call (sg := sg ._law_any) (ks := [.o 0, .v (.L .im), .v (.L .im), .v (.L .im), .v .im]) (t := .im) (dds := []) (dvs := []) (IH ._law_any) hr (by rfl) T.m__law_any T.k__law_any T.b__law_any .nil (passZ (E := E)) (fun _ _ _ _ z => z) (sa_o (so_sl (i := 0) (t := (.L .any)) rfl (pv 0)) (sa_cons (se_var (i := 1) (t := (.L .im)) rfl (pv 1)) (sa_cons (se_var (i := 2) (t := (.L .im)) rfl (pv 2)) (sa_cons (se_var (i := 3) (t := (.L .im)) rfl (pv 3)) (sa_cons (se_var (i := 4) (t := .im) rfl (pv 4)) (sa_nil)))))) (fun _ _ => rfl))) (sss_cons (ss_set (i := 7) sc.nd rfl (by first | exact .inl rfl | exact .inr rfl) (se_call (sg := sg ._law_any) (ks := [.o 0, .v (.L .im), .v (.L .im), .v (.L .im), .v .im]) (t := .im) (dds := []) (dvs := []) (IH ._law_any) hr (by rfl) T.m__law_any T.k__law_any T.b__law_any .nil (passZ (E := E)) (fun _ _ _ _ z => z) (sa_o (so_sl (i := 0) (t := (.L .any)) rfl (pv 0)) (sa_cons (se_var (i := 1) (t := (.L .im)) rfl (pv 1)) (sa_cons (se_var (i := 2) (t := (.L .im)) rfl (pv 2)) (sa_cons (se_var (i := 3) (t := (.L .im)) rfl (pv 3)) (sa_cons (se_var (i := 4) (t := .im) rfl (pv 4)) (sa_nil)))))) (fun _ _ => rfl))) (sss_cons (ss_if (Γ' := [.own (.L .any), .fz (.L .im), .fz (.L .im), .fz (.L .im), .fz .im, .fz .im, .fz .im, .fz .im, .un, .un, .un]) (st_cmp (ka := (.v .im)) (kb := (.v .im)) (op_eqP hu) eq_s (se_op (ka := (.v .im)) (kb := (.v .im)) op_mod mod_s (se_var (i := 5) (t := .im) rfl (pv 5)) (se_int)) (se_int) (nomark _)) (sss_one (ss_ret (se_tup (ks := [.v .im, .v .im, .v .im]) (t := .im) (sa_cons (se_str) (sa_cons (se_var (i := 6) (t := .im) rfl (pv 6)) (sa_cons (se_tup (ks := [.v .im, .v .im]) (t := .im) (sa_cons (se_tup (ks := [.v .im, .v .im, .v .im]) (t := .im) (sa_cons (se_str) (sa_cons (se_tup (ks := []) (t := .im) (sa_nil)) (sa_cons (se_var (i := 7) (t := .im) rfl (pv 7)) (sa_nil))))) (sa_cons (se_tup (ks := [.v .im, .v .im, .v .im]) (t := .im) (sa_cons (se_str) (sa_cons (se_tup (ks := []) (t := .im) (sa_nil)) (sa_cons (se_call (sg := sg ._law_any) (ks := [.o 0, .v (.L .im), .v (.L .im), .v (.L .im), .v .im]) (t := .im) (dds := []) (dvs := []) (IH ._law_any) hr (by rfl) T.m__law_any T.k__law_any T.b__law_any .nil (passZ (E := E)) (fun _ _ _ _ z => z) (sa_o (so_sl (i := 0) (t := (.L .any)) rfl (pv 0)) (sa_cons (se_var (i := 1) (t := (.L .im)) rfl (pv 1)) (sa_cons (se_var (i := 2) (t := (.L .im)) rfl (pv 2)) (sa_cons (se_var (i := 3) (t := (.L .im)) rfl (pv 3)) (sa_cons (se_var (i := 4) (t := .im) rfl (pv 4)) (sa_nil)))))) (fun _ _ => rfl)) (sa_nil))))) (sa_nil)))) (sa_nil))))))) (sss_wR (Γ2 := [.own (.L .any), .fz (.L .im), .fz (.L .im), .fz (.L .im), .fz .im, .fz .im, .fz .im, .fz .im, .un, .un, .un]) (sss_nil))) (sss_cons (ss_set (i := 8) sc.nd rfl (by first | exact .inl rfl | exact .inr rfl) (se_op (ka := (.v .im)) (kb := (.v .im)) op_mod mod_s (se_op (ka := (.v .im)) (kb := (.v .im)) op_fdivW div_s (se_var (i := 5) (t := .im) rfl (pv 5)) (se_int)) (se_cb (ks := [.v (.L .im)]) (t := .im) call_len len_s (by rfl) T.z_len (by decide +kernel) (sa_cons (se_var (i := 1) (t := (.L .im)) rfl (pv 1)) (sa_nil))))) (sss_cons (ss_set (i := 9) sc.nd rfl (by first | exact .inl rfl | exact .inr rfl) (se_tup (ks := [.v .im, .v .im]) (t := .im) (sa_cons (se_ix (ka := (.v (.L .im))) (kb := (.v .im)) (ta := (.L .im)) (tb := .im) (t := .im) ix_seq ix_s (se_var (i := 1) (t := (.L .im)) rfl (pv 1)) (se_var (i := 8) (t := .im) rfl (pv 8)) (fun _ _ => rfl)) (sa_cons (se_ix (ka := (.v (.L .im))) (kb := (.v .im)) (ta := (.L .im)) (tb := .im) (t := .im) ix_seq ix_s (se_var (i := 1) (t := (.L .im)) rfl (pv 1)) (se_op (ka := (.v .im)) (kb := (.v .im)) op_mod mod_s (se_op (ka := (.v .im)) (kb := (.v .im)) op_addB add_s (se_op (ka := (.v .im)) (kb := (.v .im)) op_addB add_s (se_var (i := 8) (t := .im) rfl (pv 8)) (se_int)) (se_op (ka := (.v .im)) (kb := (.v .im)) op_mod mod_s (se_op (ka := (.v .im)) (kb := (.v .im)) op_fdivW div_s (se_var (i := 5) (t := .im) rfl (pv 5)) (se_int)) (se_op (ka := (.v .im)) (kb := (.v .im)) op_sub sub_s (se_cb (ks := [.v (.L .im)]) (t := .im) call_len len_s (by rfl) T.z_len (by decide +kernel) (sa_cons (se_var (i := 1) (t := (.L .im)) rfl (pv 1)) (sa_nil))) (se_int)))) (se_cb (ks := [.v (.L .im)]) (t := .im) call_len len_s (by rfl) T.z_len (by decide +kernel) (sa_cons (se_var (i := 1) (t := (.L .im)) rfl (pv 1)) (sa_nil)))) (fun _ _ => rfl)) (sa_nil))))) (sss_cons (ss_set (i := 10) sc.nd rfl (by first | exact .inl rfl | exact .inr rfl) (se_call (sg := sg ._law_any) (ks := [.o 0, .v (.L .im), .v (.L .im), .v (.L .im), .v .im]) (t := .im) (dds := []) (dvs := []) (IH ._law_any) hr (by rfl) T.m__law_any T.k__law_any T.b__law_any .nil (passZ (E := E)) (fun _ _ _ _ z => z) (sa_o (so_sl (i := 0) (t := (.L .any)) rfl (pv 0)) (sa_cons (se_var (i := 1) (t := (.L .im)) rfl (pv 1)) (sa_cons ((sn_cat (ka := (.v (.L .im))) (kb := (.v (.L .im))) (ta := .im) (tb := .im) (t := .im) rfl (se_var (i := 2) (t := (.L .im)) rfl (pv 2)) ((sn_ct (ks := [.v .im]) (t := .im) call_list_of list_s (by rfl) T.z_list (by decide +kernel) (sa_cons (se_var (i := 9) (t := .im) rfl (pv 9)) (sa_nil))).fz)).fz) (sa_cons (se_var (i := 3) (t := (.L .im)) rfl (pv 3)) (sa_cons (se_var (i := 4) (t := .im) rfl (pv 4)) (sa_nil)))))) (fun _ _ => rfl))) (sss_cons (ss_if (Γ' := [.own (.L .any), .fz (.L .im), .fz (.L .im), .fz (.L .im), .fz .im, .fz .im, .fz .im, .fz .im, .fz .im, .fz .im, .fz .im]) (st_cmp (ka := (.v .im)) (kb := (.v .im)) (op_eqP hu) eq_s (se_op (ka := (.v .im)) (kb := (.v .im)) op_mod mod_s (se_var (i := 5) (t := .im) rfl (pv 5)) (se_int)) (se_int) (nomark _)) (sss_one (ss_ret (se_tup (ks := [.v .im, .v .im, .v .im]) (t := .im) (sa_cons (se_str) (sa_cons (se_var (i := 6) (t := .im) rfl (pv 6)) (sa_cons (se_tup (ks := [.v .im]) (t := .im) (sa_cons (se_tup (ks := [.v .im, .v .im, .v .im]) (t := .im) (sa_cons (se_str) (sa_cons (se_var (i := 9) (t := .im) rfl (pv 9)) (sa_cons (se_var (i := 10) (t := .im) rfl (pv 10)) (sa_nil))))) (sa_nil))) (sa_nil))))))) (sss_wR (Γ2 := [.own (.L .any), .fz (.L .im), .fz (.L .im), .fz (.L .im), .fz .im, .fz .im, .fz .im, .fz .im, .fz .im, .fz .im, .fz .im]) (sss_nil))) (sss_one (ss_ret (se_tup (ks := [.v .im, .v .im, .v .im]) (t := .im) (sa_cons (se_str) (sa_cons (se_var (i := 6) (t := .im) rfl (pv 6)) (sa_cons (se_tup (ks := [.v .im, .v .im]) (t := .im) (sa_cons (se_tup (ks := [.v .im, .v .im, .v .im]) (t := .im) (sa_cons (se_str) (sa_cons (se_tup (ks := []) (t := .im) (sa_nil)) (sa_cons (se_var (i := 7) (t := .im) rfl (pv 7)) (sa_nil))))) (sa_cons (se_tup (ks := [.v .im, .v .im, .v .im]) (t := .im) (sa_cons (se_str) (sa_cons (se_var (i := 9) (t := .im) rfl (pv 9)) (sa_cons (se_var (i := 10) (t := .im) rfl (pv 10)) (sa_nil))))) (sa_nil)))) (sa_nil))))))))))))))
theorem ok__law_funs (T : Txt K mg ad fd) (IH : ∀ g, FnOk P w K mg base CX0 k (ad g) (fd g) (ps g) (spF K XR0 (sg g) (rk g) (Fn k g))) : FnOk P w K mg base CX0 (k + 1) (ad ._law_funs) (fd ._law_funs) (ps ._law_funs) (spF K XR0 (sg ._law_funs) (rk ._law_funs) (Fn (k + 1) ._law_funs)) :=
  fn_body (fall := false) (β := b__law_funs (Fn k)) T.f__law_funs sc__law_funs rfl rfl rfl rfl fun cdv A outer s H E hr => by
    have sc := sc__law_funs
    have hu := hr.un
    have hu : (A.deeper (PyProof.Rows.envOfC "_law_funs" (defScope s__law_funs) s.heap.objs.size (ad ._law_funs) cdv)).units + 200 < cLine := by omega
    have hu1 : (A.deeper (PyProof.Rows.envOfC "_law_funs" (defScope s__law_funs) s.heap.objs.size (ad ._law_funs) cdv)).units + 1 < cLine := by omega
    exact sss_cons (ss_set (i := 5) sc.nd rfl (by first | exact .inl rfl | exact .inr rfl) (se_call (sg := sg ._law_next) (ks := [.o 0]) (t := .im) (dds := []) (dvs := []) (IH ._law_next) hr (by rfl) T.m__law_next T.k__law_next T.b__law_next .nil (passZ (E := E)) (fun _ _ _ _ z => z) (sa_o (so_sl (i := 0) (t := (.L .any)) rfl (pv 0)) (sa_nil)) (fun _ _ => rfl))) (sss_cons (ss_setLc (i := 6) (own := [("_law_k", 9)]) (u := .im) (t := .im) (tp := .nm 9) rfl sc.nd rfl rfl (sw_true rfl rfl rfl (by decide +kernel)) (si_rg1 (by rfl) T.z_range (sa_cons (se_op (ka := (.v .im)) (kb := (.v .im)) op_addB add_s (se_int) (se_op (ka := (.v .im)) (kb := (.v .im)) op_mod mod_s (se_var (i := 5) (t := .im) rfl (pv 5)) (se_int))) (sa_nil))) (blkOk_by (N := ["_law_state_here", "_law_pool_here", "_law_scope", "_law_known", "_law_fuel", "_law_cell", "_law_names", "_law_found", "_law_name", "_law_k"]) (sc := defScope s__law_funs) (by decide +kernel)) (fun _ _ _ _ _ => gs_name (pg_name (i := 9) sc.nd rfl (by first | exact .inl rfl | exact .inr rfl))) (fun _ _ _ _ _ => pts_no) (fun _ _ _ _ _ => se_ix (ka := (.v (.L .im))) (kb := (.v .im)) (ta := (.L .im)) (tb := .im) (t := .im) ix_seq ix_s (se_var (i := 1) (t := (.L .im)) rfl (pv 1)) (se_op (ka := (.v .im)) (kb := (.v .im)) op_mod mod_s (se_op (ka := (.v .im)) (kb := (.v .im)) op_addB add_s (se_op (ka := (.v .im)) (kb := (.v .im)) op_fdivW div_s (se_var (i := 5) (t := .im) rfl (pv 5)) (se_int)) (se_op (ka := (.v .im)) (kb := (.v .im)) op_mulB mul_s (se_var (i := 9) (t := .im) rfl (pv 9)) (se_op (ka := (.v .im)) (kb := (.v .im)) op_mod mod_s (se_op (ka := (.v .im)) (kb := (.v .im)) op_fdivW div_s (se_var (i := 5) (t := .im) rfl (pv 5)) (se_int)) (se_int)))) (se_cb (ks := [.v (.L .im)]) (t := .im) call_len len_s (by rfl) T.z_len (by decide +kernel) (sa_cons (se_var (i := 1) (t := (.L .im)) rfl (pv 1)) (sa_nil)))) (fun _ _ => rfl))) (sss_cons (ss_set (i := 7) sc.nd rfl (by first | exact .inl rfl | exact .inr rfl) (se_call (sg := sg ._law_any) (ks := [.o 0, .v (.L .im), .v (.L .im), .v (.L .im), .v .im]) (t := .im) (dds := []) (dvs := []) (IH ._law_any) hr (by rfl) T.m__law_any T.k__law_any T.b__law_any .nil (passZ (E := E)) (fun _ _ _ _ z => z) (sa_o (so_sl (i := 0) (t := (.L .any)) rfl (pv 0)) (sa_cons (se_var (i := 1) (t := (.L .im)) rfl (pv 1)) (sa_cons ((sn_cat (ka := (.v (.L .im))) (kb := (.v (.L .im))) (ta := .im) (tb := .im) (t := .im) rfl (se_var (i := 2) (t := (.L .im)) rfl (pv 2)) (se_var (i := 6) (t := (.L .im)) rfl (pv 6))).fz) (sa_cons (se_var (i := 3) (t := (.L .im)) rfl (pv 3)) (sa_cons (se_var (i := 4) (t := .im) rfl (pv 4)) (sa_nil)))))) (fun _ _ => rfl))) (sss_cons (ss_for (Γ := [.own (.L .any), .fz (.L .im), .fz (.L .im), .fz (.L .im), .fz .im, .fz .im, .fz (.L .im), .fz .im, .un, .un]) (u := .im) (tp := .nm 8) PassesOwn.never rfl (si_rev (t := (.L .im)) rfl (by rfl) T.z_reversed (se_var (i := 6) (t := (.L .im)) rfl (pv 6))) (gs_name (pg_name (i := 8) sc.nd rfl (by first | exact .inl rfl | exact .inr rfl))) (sss_wR (Γ2 := [.own (.L .any), .fz (.L .im), .fz (.L .im), .fz (.L .im), .fz .im, .fz .im, .fz (.L .im), .fz .im, .un, .un]) (sss_one (ss_set (i := 7) sc.nd rfl (by first | exact .inl rfl | exact .inr rfl) (se_tup (ks := [.v .im, .v .im, .v .im]) (t := .im) (sa_cons (se_str) (sa_cons (se_var (i := 8) (t := .im) rfl (pv 8)) (sa_cons (se_var (i := 7) (t := .im) rfl (pv 7)) (sa_nil))))))))) (sss_one (ss_ret (se_var (i := 7) (t := .im) rfl (pv 7)))))))
theorem ok__law_let (T : Txt K mg ad fd) (IH : ∀ g, FnOk P w K mg base CX0 k (ad g) (fd g) (ps g) (spF K XR0 (sg g) (rk g) (Fn k g))) : FnOk P w K mg base CX0 (k + 1) (ad ._law_let) (fd ._law_let) (ps ._law_let) (spF K XR0 (sg ._law_let) (rk ._law_let) (Fn (k + 1) ._law_let)) :=
  fn_body (fall := false) (β := b__law_let (Fn k)) T.f__law_let sc__law_let rfl rfl rfl rfl fun cdv A outer s H E hr => by
    have sc := sc__law_let
    have hu := hr.un
    have hu : (A.deeper (PyProof.Rows.envOfC "_law_let" (defScope s__law_let) s.heap.objs.size (ad ._law_let) cdv)).units + 200 < cLine := by omega
    have hu1 : (A.deeper (PyProof.Rows.envOfC "_law_let" (defScope s__law_let) s.heap.objs.size (ad ._law_let) cdv)).units + 1 < cLine := by omega
    exact sss_cons (ss_set (i := 5) sc.nd rfl (by first | exact .inl rfl | exact .inr rfl) (se_call (sg := sg ._law_next) (ks := [.o 0]) (t := .im) (dds := []) (dvs := []) (IH ._law_next) hr (by rfl) T.m__law_next T.k__law_next T.b__law_next .nil (passZ (E := E)) (fun _ _ _ _ z => z) (sa_o (so_sl (i := 0) (t := (.L .any)) rfl (pv 0)) (sa_nil)) (fun _ _ => rfl))) (sss_cons (ss_set (i := 6) sc.nd rfl (by first | exact .inl rfl | exact .inr rfl) (se_ix (ka := (.v (.L .im))) (kb := (.v .im)) (ta := (.L .im)) (tb := .im) (t := .im) ix_seq ix_s ((sn_lst (ks := [.v .im, .v .im, .v .im, .v .im, .v .im]) (t := .im) (sa_cons (se_int) (sa_cons (se_int) (sa_cons (se_int) (sa_cons (se_int) (sa_cons (se_int) (sa_nil))))))).fz) (se_op (ka := (.v .im)) (kb := (.v .im)) op_mod mod_s (se_var (i := 5) (t := .im) rfl (pv 5)) (se_int)) (fun _ _ => rfl))) (sss_cons (ss_put (i := 0) (t := .any) (so_sl (i := 0) (t := (.L .any)) rfl (pv 0)) (se_int) (se_op (ka := (.v .any)) (kb := (.v .im)) op_sub sub_s (se_ix (ka := (.s 0)) (kb := (.v .im)) (ta := (.L .any)) (tb := .im) (t := .any) ix_seq ix_s (so_sl (i := 0) (t := (.L .any)) rfl (pv 0)) (se_int) (fun _ _ => rfl)) (se_var (i := 6) (t := .im) rfl (pv 6)))) (sss_cons (ss_setLc (i := 7) (own := [("_law_k", 12)]) (u := .im) (t := .im) (tp := .nm 12) rfl sc.nd rfl rfl (sw_true rfl rfl rfl (by decide +kernel)) (si_rg1 (by rfl) T.z_range (sa_cons (se_var (i := 6) (t := .im) rfl (pv 6)) (sa_nil))) (blkOk_by (N := ["_law_state_here", "_law_pool_here", "_law_scope", "_law_known", "_law_fuel", "_law_cell", "_law_many", "_law_names", "_law_funs_here", "_law_inner", "_law_pairs", "_law_name", "_law_k"]) (sc := defScope s__law_let) (by decide +kernel)) (fun _ _ _ _ _ => gs_name (pg_name (i := 12) sc.nd rfl (by first | exact .inl rfl | exact .inr rfl))) (fun _ _ _ _ _ => pts_no) (fun _ _ _ _ _ => se_ix (ka := (.v (.L .im))) (kb := (.v .im)) (ta := (.L .im)) (tb := .im) (t := .im) ix_seq ix_s (se_var (i := 1) (t := (.L .im)) rfl (pv 1)) (se_op (ka := (.v .im)) (kb := (.v .im)) op_mod mod_s (se_op (ka := (.v .im)) (kb := (.v .im)) op_addB add_s (se_op (ka := (.v .im)) (kb := (.v .im)) op_fdivW div_s (se_var (i := 5) (t := .im) rfl (pv 5)) (se_int)) (se_var (i := 12) (t := .im) rfl (pv 12))) (se_cb (ks := [.v (.L .im)]) (t := .im) call_len len_s (by rfl) T.z_len (by decide +kernel) (sa_cons (se_var (i := 1) (t := (.L .im)) rfl (pv 1)) (sa_nil)))) (fun _ _ => rfl))) (sss_cons (ss_setLc (i := 8) (own := [("_law_k", 12), ("_law_name", 11)]) (u := (.T [.im, .im])) (t := .im) (tp := .pr [.nm 12, .nm 11]) (g := (gTup K 2 (gCons (gName 12) (gCons (gName 11) gNil)))) rfl sc.nd rfl rfl (sw_true rfl rfl rfl (by decide +kernel)) (si_enumL (t := .im) rfl (by rfl) T.z_enumerate (sa_cons (se_var (i := 7) (t := (.L .im)) rfl (pv 7)) (sa_nil))) (blkOk_by (N := ["_law_state_here", "_law_pool_here", "_law_scope", "_law_known", "_law_fuel", "_law_cell", "_law_many", "_law_names", "_law_funs_here", "_law_inner", "_law_pairs", "_law_name", "_law_k"]) (sc := defScope s__law_let) (by decide +kernel)) (fun _ _ _ _ _ => gs_tup rfl rfl (gss_cons (gs_name (pg_name (i := 12) sc.nd rfl (by first | exact .inl rfl | exact .inr rfl))) (gss_cons (gs_name (pg_name (i := 11) sc.nd rfl (by first | exact .inl rfl | exact .inr rfl))) (gss_nil)))) (fun _ _ _ _ _ => pts_1 (st_cmp (ka := (.v .im)) (kb := (.v .im)) (op_eqP hu) eq_s (se_op (ka := (.v .im)) (kb := (.v .im)) op_and and_s (se_op (ka := (.v .im)) (kb := (.v .im)) op_shr shr_s (se_var (i := 5) (t := .im) rfl (pv 5)) (se_op (ka := (.v .im)) (kb := (.v .im)) op_addB add_s (se_int) (se_var (i := 12) (t := .im) rfl (pv 12)))) (se_int)) (se_int) (nomark _))) (fun _ _ _ _ _ => se_var (i := 11) (t := .im) rfl (pv 11))) (sss_cons (ss_set (i := 9) sc.nd rfl (by first | exact .inl rfl | exact .inr rfl) ((sn_cat (ka := (.v (.L .im))) (kb := (.v (.L .im))) (ta := .im) (tb := .im) (t := .im) rfl (se_var (i := 2) (t := (.L .im)) rfl (pv 2)) (se_var (i := 7) (t := (.L .im)) rfl (pv 7))).fz)) (sss_cons (ss_setN (i := 10) sc.nd rfl (by first | exact .inl rfl | exact .inr rfl) (sn_lst (ks := []) (t := .im) (sa_nil))) (sss_cons (ss_for (Γ := [.own (.L .any), .fz (.L .im), .fz (.L .im), .fz (.L .im), .fz .im, .fz .im, .fz .im, .fz (.L .im), .fz (.L .im), .fz (.L .im), .own (.L .im), .un, .un]) (u := .im) (tp := .nm 11) PassesOwn.never rfl (si_list (t := (.L .im)) rfl (se_var (i := 7) (t := (.L .im)) rfl (pv 7))) (gs_name (pg_name (i := 11) sc.nd rfl (by first | exact .inl rfl | exact .inr rfl))) (sss_wR (Γ2 := [.own (.L .any), .fz (.L .im), .fz (.L .im), .fz (.L .im), .fz .im, .fz .im, .fz .im, .fz (.L .im), .fz (.L .im), .fz (.L .im), .own (.L .im), .un, .un]) (sss_one (ss_if (Γ' := [.own (.L .any), .fz (.L .im), .fz (.L .im), .fz (.L .im), .fz .im, .fz .im, .fz .im, .fz (.L .im), .fz (.L .im), .fz (.L .im), .own (.L .im), .fz .im, .un]) (st_cmp (ka := (.v .im)) (kb := (.v (.L .im))) (op_inB hu) (in_s false) (se_var (i := 11) (t := .im) rfl (pv 11)) (se_var (i := 8) (t := (.L .im)) rfl (pv 8)) rfl) (sss_wR (Γ2 := [.own (.L .any), .fz (.L .im), .fz (.L .im), .fz (.L .im), .fz .im, .fz .im, .fz .im, .fz (.L .im), .fz (.L .im), .fz (.L .im), .own (.L .im), .fz .im, .un]) (sss_one (ss_expr (t := .im) (se_app (i := 10) (ta := .im) rfl (so_sl (i := 10) (t := (.L .im)) rfl (pv 10)) (se_tup (ks := [.v .im, .v .im]) (t := .im) (sa_cons (se_var (i := 11) (t := .im) rfl (pv 11)) (sa_cons (se_call (sg := sg ._law_funs) (ks := [.o 0, .v (.L .im), .v (.L .im), .v (.L .im), .v .im]) (t := .im) (dds := []) (dvs := []) (IH ._law_funs) hr (by rfl) T.m__law_funs T.k__law_funs T.b__law_funs .nil (passZ (E := E)) (fun _ _ _ _ z => z) (sa_o (so_sl (i := 0) (t := (.L .any)) rfl (pv 0)) (sa_cons (se_var (i := 1) (t := (.L .im)) rfl (pv 1)) (sa_cons (se_var (i := 9) (t := (.L .im)) rfl (pv 9)) (sa_cons ((sn_cat (ka := (.v (.L .im))) (kb := (.v (.L .im))) (ta := .im) (tb := .im) (t := .im) rfl (se_var (i := 3) (t := (.L .im)) rfl (pv 3)) (se_var (i := 8) (t := (.L .im)) rfl (pv 8))).fz) (sa_cons (se_var (i := 4) (t := .im) rfl (pv 4)) (sa_nil)))))) (fun _ _ => rfl)) (sa_nil)))))))) (sss_wR (Γ2 := [.own (.L .any), .fz (.L .im), .fz (.L .im), .fz (.L .im), .fz .im, .fz .im, .fz .im, .fz (.L .im), .fz (.L .im), .fz (.L .im), .own (.L .im), .fz .im, .un]) (sss_one (ss_expr (t := .im) (se_app (i := 10) (ta := .im) rfl (so_sl (i := 10) (t := (.L .im)) rfl (pv 10)) (se_tup (ks := [.v .im, .v .im]) (t := .im) (sa_cons (se_var (i := 11) (t := .im) rfl (pv 11)) (sa_cons (se_call (sg := sg ._law_any) (ks := [.o 0, .v (.L .im), .v (.L .im), .v (.L .im), .v .im]) (t := .im) (dds := []) (dvs := []) (IH ._law_any) hr (by rfl) T.m__law_any T.k__law_any T.b__law_any .nil (passZ (E := E)) (fun _ _ _ _ z => z) (sa_o (so_sl (i := 0) (t := (.L .any)) rfl (pv 0)) (sa_cons (se_var (i := 1) (t := (.L .im)) rfl (pv 1)) (sa_cons (se_var (i := 9) (t := (.L .im)) rfl (pv 9)) (sa_cons ((sn_cat (ka := (.v (.L .im))) (kb := (.v (.L .im))) (ta := .im) (tb := .im) (t := .im) rfl (se_var (i := 3) (t := (.L .im)) rfl (pv 3)) (se_var (i := 8) (t := (.L .im)) rfl (pv 8))).fz) (sa_cons (se_var (i := 4) (t := .im) rfl (pv 4)) (sa_nil)))))) (fun _ _ => rfl)) (sa_nil)))))))))))) (sss_one (ss_wL (Γ := [.own (.L .any), .fz (.L .im), .fz (.L .im), .fz (.L .im), .fz .im, .fz .im, .fz .im, .fz (.L .im), .fz (.L .im), .fz (.L .im), .own (.L .im), .un, .un]) (Γ1 := [.own (.L .any), .fz (.L .im), .fz (.L .im), .fz (.L .im), .fz .im, .fz .im, .fz .im, .fz (.L .im), .fz (.L .im), .fz (.L .im), .fz (.L .im), .un, .un]) (ss_ret (se_tup (ks := [.v .im, .v .im, .v .im]) (t := .im) (sa_cons (se_str) (sa_cons (se_ct (ks := [.v (.L .im)]) (t := .im) call_tuple_of tuple_s (by rfl) T.z_tuple (by decide +kernel) (sa_cons (se_var (i := 10) (t := (.L .im)) rfl (pv 10)) (sa_nil))) (sa_cons (se_call (sg := sg ._law_any) (ks := [.o 0, .v (.L .im), .v (.L .im), .v (.L .im), .v .im]) (t := .im) (dds := []) (dvs := []) (IH ._law_any) hr (by rfl) T.m__law_any T.k__law_any T.b__law_any .nil (passZ (E := E)) (fun _ _ _ _ z => z) (sa_o (so_sl (i := 0) (t := (.L .any)) rfl (pv 0)) (sa_cons (se_var (i := 1) (t := (.L .im)) rfl (pv 1)) (sa_cons (se_var (i := 9) (t := (.L .im)) rfl (pv 9)) (sa_cons ((sn_cat (ka := (.v (.L .im))) (kb := (.v (.L .im))) (ta := .im) (tb := .im) (t := .im) rfl (se_var (i := 3) (t := (.L .im)) rfl (pv 3)) (se_var (i := 8) (t := (.L .im)) rfl (pv 8))).fz) (sa_cons (se_var (i := 4) (t := .im) rfl (pv 4)) (sa_nil)))))) (fun _ _ => rfl)) (sa_nil)))))))))))))))
theorem ok__law_call (T : Txt K mg ad fd) (IH : ∀ g, FnOk P w K mg base CX0 k (ad g) (fd g) (ps g) (spF K XR0 (sg g) (rk g) (Fn k g))) : FnOk P w K mg base CX0 (k + 1) (ad ._law_call) (fd ._law_call) (ps ._law_call) (spF K XR0 (sg ._law_call) (rk ._law_call) (Fn (k + 1) ._law_call)) :=
  fn_body (fall := false) (β := b__law_call (Fn k)) T.f__law_call sc__law_call rfl rfl rfl rfl fun cdv A outer s H E hr => by
    have sc := sc__law_call
    have hu := hr.un
    have hu : (A.deeper (PyProof.Rows.envOfC "_law_call" (defScope s__law_call) s.heap.objs.size (ad ._law_call) cdv)).units + 200 < cLine := by omega
    have hu1 : (A.deeper (PyProof.Rows.envOfC "_law_call" (defScope s__law_call) s.heap.objs.size (ad ._law_call) cdv)).units + 1 < cLine := by omega
    exact sss_cons (ss_set (i := 5) sc.nd rfl (by first | exact .inl rfl | exact .inr rfl) (se_call (sg := sg ._law_next) (ks := [.o 0]) (t := .im) (dds := []) (dvs := []) (IH ._law_next) hr (by rfl) T.m__law_next T.k__law_next T.b__law_next .nil (passZ (E := E)) (fun _ _ _ _ z => z) (sa_o (so_sl (i := 0) (t := (.L .any)) rfl (pv 0)) (sa_nil)) (fun _ _ => rfl))) (sss_cons (ss_if (Γ' := [.own (.L .any), .fz (.L .im), .fz (.L .im), .fz (.L .im), .fz .im, .fz .im, .fz .im, .un, .un]) (st_cmp (ka := (.v .im)) (kb := (.v .im)) (op_eqP hu) eq_s (se_op (ka := (.v .im)) (kb := (.v .im)) op_mod mod_s (se_var (i := 5) (t := .im) rfl (pv 5)) (se_int)) (se_int) (nomark _)) (sss_wR (Γ2 := [.own (.L .any), .fz (.L .im), .fz (.L .im), .fz (.L .im), .fz .im, .fz .im, .fz .im, .un, .un]) (sss_one (ss_set (i := 6) sc.nd rfl (by first | exact .inl rfl | exact .inr rfl) (se_call (sg := sg ._law_any) (ks := [.o 0, .v (.L .im), .v (.L .im), .v (.L .im), .v .im]) (t := .im) (dds := []) (dvs := []) (IH ._law_any) hr (by rfl) T.m__law_any T.k__law_any T.b__law_any .nil (passZ (E := E)) (fun _ _ _ _ z => z) (sa_o (so_sl (i := 0) (t := (.L .any)) rfl (pv 0)) (sa_cons (se_var (i := 1) (t := (.L .im)) rfl (pv 1)) (sa_cons (se_var (i := 2) (t := (.L .im)) rfl (pv 2)) (sa_cons (se_var (i := 3) (t := (.L .im)) rfl (pv 3)) (sa_cons (se_var (i := 4) (t := .im) rfl (pv 4)) (sa_nil)))))) (fun _ _ => rfl))))) (sss_wR (Γ2 := [.own (.L .any), .fz (.L .im), .fz (.L .im), .fz (.L .im), .fz .im, .fz .im, .fz .im, .un, .un]) (sss_one (ss_if (Γ' := [.own (.L .any), .fz (.L .im), .fz (.L .im), .fz (.L .im), .fz .im, .fz .im, .fz .im, .un, .un]) (st_w (sw_or (st_cmp (ka := (.v .im)) (kb := (.v .im)) (op_eqP hu) eq_s (se_op (ka := (.v .im)) (kb := (.v .im)) op_mod mod_s (se_var (i := 5) (t := .im) rfl (pv 5)) (se_int)) (se_int) (nomark _)) (sw_or1 (st_cmp (ka := (.v .im)) (kb := (.v .im)) (op_eqP hu) eq_s (se_cb (ks := [.v (.L .im)]) (t := .im) call_len len_s (by rfl) T.z_len (by decide +kernel) (sa_cons (se_var (i := 3) (t := (.L .im)) rfl (pv 3)) (sa_nil))) (se_int) (nomark _))))) (sss_wR (Γ2 := [.own (.L .any), .fz (.L .im), .fz (.L .im), .fz (.L .im), .fz .im, .fz .im, .fz .im, .un, .un]) (sss_one (ss_set (i := 6) sc.nd rfl (by first | exact .inl rfl | exact .inr rfl) (se_call (sg := sg ._law_funs) (ks := [.o 0, .v (.L .im), .v (.L .im), .v (.L .im), .v .im]) (t := .im) (dds := []) (dvs := []) (IH ._law_funs) hr (by rfl) T.m__law_funs T.k__law_funs T.b__law_funs .nil (passZ (E := E)) (fun _ _ _ _ z => z) (sa_o (so_sl (i := 0) (t := (.L .any)) rfl (pv 0)) (sa_cons (se_var (i := 1) (t := (.L .im)) rfl (pv 1)) (sa_cons (se_var (i := 2) (t := (.L .im)) rfl (pv 2)) (sa_cons (se_var (i := 3) (t := (.L .im)) rfl (pv 3)) (sa_cons (se_op (ka := (.v .im)) (kb := (.v .im)) op_sub sub_s (se_var (i := 4) (t := .im) rfl (pv 4)) (se_int)) (sa_nil)))))) (fun _ _ => rfl))))) (sss_wR (Γ2 := [.own (.L .any), .fz (.L .im), .fz (.L .im), .fz (.L .im), .fz .im, .fz .im, .fz .im, .un, .un]) (sss_one (ss_set (i := 6) sc.nd rfl (by first | exact .inl rfl | exact .inr rfl) (se_tup (ks := [.v .im, .v .im]) (t := .im) (sa_cons (se_str) (sa_cons (se_ix (ka := (.v (.L .im))) (kb := (.v .im)) (ta := (.L .im)) (tb := .im) (t := .im) ix_seq ix_s (se_var (i := 3) (t := (.L .im)) rfl (pv 3)) (se_op (ka := (.v .im)) (kb := (.v .im)) op_mod mod_s (se_op (ka := (.v .im)) (kb := (.v .im)) op_fdivW div_s (se_var (i := 5) (t := .im) rfl (pv 5)) (se_int)) (se_cb (ks := [.v (.L .im)]) (t := .im) call_len len_s (by rfl) T.z_len (by decide +kernel) (sa_cons (se_var (i := 3) (t := (.L .im)) rfl (pv 3)) (sa_nil)))) (fun _ _ => rfl)) (sa_nil))))))))))) (sss_cons (ss_set (i := 7) sc.nd rfl (by first | exact .inl rfl | exact .inr rfl) (se_ix (ka := (.v (.L .im))) (kb := (.v .im)) (ta := (.L .im)) (tb := .im) (t := .im) ix_seq ix_s ((sn_lst (ks := [.v .im, .v .im, .v .im, .v .im]) (t := .im) (sa_cons (se_int) (sa_cons (se_int) (sa_cons (se_int) (sa_cons (se_int) (sa_nil)))))).fz) (se_op (ka := (.v .im)) (kb := (.v .im)) op_mod mod_s (se_op (ka := (.v .im)) (kb := (.v .im)) op_fdivW div_s (se_var (i := 5) (t := .im) rfl (pv 5)) (se_int)) (se_int)) (fun _ _ => rfl))) (sss_cons (ss_put (i := 0) (t := .any) (so_sl (i := 0) (t := (.L .any)) rfl (pv 0)) (se_int) (se_op (ka := (.v .any)) (kb := (.v .im)) op_sub sub_s (se_ix (ka := (.s 0)) (kb := (.v .im)) (ta := (.L .any)) (tb := .im) (t := .any) ix_seq ix_s (so_sl (i := 0) (t := (.L .any)) rfl (pv 0)) (se_int) (fun _ _ => rfl)) (se_var (i := 7) (t := .im) rfl (pv 7)))) (sss_cons (ss_for (Γ := [.own (.L .any), .fz (.L .im), .fz (.L .im), .fz (.L .im), .fz .im, .fz .im, .fz .im, .fz .im, .un]) (u := .im) (tp := .nm 8) PassesOwn.never rfl (si_rg1 (by rfl) T.z_range (sa_cons (se_var (i := 7) (t := .im) rfl (pv 7)) (sa_nil))) (gs_name (pg_name (i := 8) sc.nd rfl (by first | exact .inl rfl | exact .inr rfl))) (sss_wR (Γ2 := [.own (.L .any), .fz (.L .im), .fz (.L .im), .fz (.L .im), .fz .im, .fz .im, .fz .im, .fz .im, .un]) (sss_one (ss_set (i := 6) sc.nd rfl (by first | exact .inl rfl | exact .inr rfl) (se_tup (ks := [.v .im, .v .im, .v .im]) (t := .im) (sa_cons (se_str) (sa_cons (se_var (i := 6) (t := .im) rfl (pv 6)) (sa_cons (se_call (sg := sg ._law_any) (ks := [.o 0, .v (.L .im), .v (.L .im), .v (.L .im), .v .im]) (t := .im) (dds := []) (dvs := []) (IH ._law_any) hr (by rfl) T.m__law_any T.k__law_any T.b__law_any .nil (passZ (E := E)) (fun _ _ _ _ z => z) (sa_o (so_sl (i := 0) (t := (.L .any)) rfl (pv 0)) (sa_cons (se_var (i := 1) (t := (.L .im)) rfl (pv 1)) (sa_cons (se_var (i := 2) (t := (.L .im)) rfl (pv 2)) (sa_cons (se_var (i := 3) (t := (.L .im)) rfl (pv 3)) (sa_cons (se_var (i := 4) (t := .im) rfl (pv 4)) (sa_nil)))))) (fun _ _ => rfl)) (sa_nil))))))))) (sss_one (ss_ret (se_var (i := 6) (t := .im) rfl (pv 6))))))))
theorem ok__law_any (T : Txt K mg ad fd) (IH : ∀ g, FnOk P w K mg base CX0 k (ad g) (fd g) (ps g) (spF K XR0 (sg g) (rk g) (Fn k g))) : FnOk P w K mg base CX0 (k + 1) (ad ._law_any) (fd ._law_any) (ps ._law_any) (spF K XR0 (sg ._law_any) (rk ._law_any) (Fn (k + 1) ._law_any)) :=
  fn_body (fall := false) (β := b__law_any (Fn k)) T.f__law_any sc__law_any rfl rfl rfl rfl fun cdv A outer s H E hr => by
    have sc := sc__law_any
    have hu := hr.un
    have hu : (A.deeper (PyProof.Rows.envOfC "_law_any" (defScope s__law_any) s.heap.objs.size (ad ._law_any) cdv)).units + 200 < cLine := by omega
    have hu1 : (A.deeper (PyProof.Rows.envOfC "_law_any" (defScope s__law_any) s.heap.objs.size (ad ._law_any) cdv)).units + 1 < cLine := by omega
    exact sss_cons (ss_set (i := 5) sc.nd rfl (by first | exact .inl rfl | exact .inr rfl) (se_call (sg := sg ._law_next) (ks := [.o 0]) (t := .im) (dds := []) (dvs := []) (IH ._law_next) hr (by rfl) T.m__law_next T.k__law_next T.b__law_next .nil (passZ (E := E)) (fun _ _ _ _ z => z) (sa_o (so_sl (i := 0) (t := (.L .any)) rfl (pv 0)) (sa_nil)) (fun _ _ => rfl))) (sss_cons (ss_put (i := 0) (t := .any) (so_sl (i := 0) (t := (.L .any)) rfl (pv 0)) (se_int) (se_op (ka := (.v .any)) (kb := (.v .im)) op_sub sub_s (se_ix (ka := (.s 0)) (kb := (.v .im)) (ta := (.L .any)) (tb := .im) (t := .any) ix_seq ix_s (so_sl (i := 0) (t := (.L .any)) rfl (pv 0)) (se_int) (fun _ _ => rfl)) (se_int))) (sss_cons (ss_set (i := 6) sc.nd rfl (by first | exact .inl rfl | exact .inr rfl) (se_op (ka := (.v .im)) (kb := (.v .im)) op_mod mod_s (se_var (i := 5) (t := .im) rfl (pv 5)) (se_int))) (sss_cons (ss_set (i := 5) sc.nd rfl (by first | exact .inl rfl | exact .inr rfl) (se_op (ka := (.v .im)) (kb := (.v .im)) op_fdivW div_s (se_var (i := 5) (t := .im) rfl (pv 5)) (se_int))) (sss_cons (ss_if (Γ' := [.own (.L .any), .fz (.L .im), .fz (.L .im), .fz (.L .im), .fz .im, .fz .im, .fz .im, .un, .un]) (st_w (sw_or (st_cmp (ka := (.v .im)) (kb := (.v .im)) op_lt lt_s (se_var (i := 6) (t := .im) rfl (pv 6)) (se_int) (nomark _)) (sw_or (st_cmp (ka := (.v .im)) (kb := (.v .im)) op_lt lt_s (se_var (i := 4) (t := .im) rfl (pv 4)) (se_int) (nomark _)) (sw_or1 (st_cmp (ka := (.v .any)) (kb := (.v .im)) op_lt lt_s (se_ix (ka := (.s 0)) (kb := (.v .im)) (ta := (.L .any)) (tb := .im) (t := .any) ix_seq ix_s (so_sl (i := 0) (t := (.L .any)) rfl (pv 0)) (se_int) (fun _ _ => rfl)) (se_int) (nomark _)))))) (sss_one (ss_ret (se_call (sg := sg ._law_leaf) (ks := [.v .im, .v (.L .im), .v (.L .im)]) (t := .im) (dds := []) (dvs := []) (IH ._law_leaf) hr (by rfl) T.m__law_leaf T.k__law_leaf T.b__law_leaf .nil (passZ (E := E)) (fun _ _ _ _ z => z) (sa_cons (se_var (i := 5) (t := .im) rfl (pv 5)) (sa_cons (se_var (i := 1) (t := (.L .im)) rfl (pv 1)) (sa_cons (se_var (i := 2) (t := (.L .im)) rfl (pv 2)) (sa_nil)))) (fun _ _ => rfl)))) (sss_wR (Γ2 := [.own (.L .any), .fz (.L .im), .fz (.L .im), .fz (.L .im), .fz .im, .fz .im, .fz .im, .un, .un]) (sss_nil))) (sss_cons (ss_if (Γ' := [.own (.L .any), .fz (.L .im), .fz (.L .im), .fz (.L .im), .fz .im, .fz .im, .fz .im, .un, .un]) (st_cmp (ka := (.v .im)) (kb := (.v .im)) op_lt lt_s (se_var (i := 6) (t := .im) rfl (pv 6)) (se_int) (nomark _)) (sss_one (ss_ret (se_call (sg := sg ._law_choose) (ks := [.o 0, .v (.L .im), .v (.L .im), .v (.L .im), .v .im]) (t := .im) (dds := []) (dvs := []) (IH ._law_choose) hr (by rfl) T.m__law_choose T.k__law_choose T.b__law_choose .nil (passZ (E := E)) (fun _ _ _ _ z => z) (sa_o (so_sl (i := 0) (t := (.L .any)) rfl (pv 0)) (sa_cons (se_var (i := 1) (t := (.L .im)) rfl (pv 1)) (sa_cons (se_var (i := 2) (t := (.L .im)) rfl (pv 2)) (sa_cons (se_var (i := 3) (t := (.L .im)) rfl (pv 3)) (sa_cons (se_op (ka := (.v .im)) (kb := (.v .im)) op_sub sub_s (se_var (i := 4) (t := .im) rfl (pv 4)) (se_int)) (sa_nil)))))) (fun _ _ => rfl)))) (sss_wR (Γ2 := [.own (.L .any), .fz (.L .im), .fz (.L .im), .fz (.L .im), .fz .im, .fz .im, .fz .im, .un, .un]) (sss_nil))) (sss_cons (ss_if (Γ' := [.own (.L .any), .fz (.L .im), .fz (.L .im), .fz (.L .im), .fz .im, .fz .im, .fz .im, .un, .un]) (st_cmp (ka := (.v .im)) (kb := (.v .im)) (op_eqP hu) eq_s (se_var (i := 6) (t := .im) rfl (pv 6)) (se_int) (nomark _)) (sss_one (ss_ret (se_call (sg := sg ._law_let) (ks := [.o 0, .v (.L .im), .v (.L .im), .v (.L .im), .v .im]) (t := .im) (dds := []) (dvs := []) (IH ._law_let) hr (by rfl) T.m__law_let T.k__law_let T.b__law_let .nil (passZ (E := E)) (fun _ _ _ _ z => z) (sa_o (so_sl (i := 0) (t := (.L .any)) rfl (pv 0)) (sa_cons (se_var (i := 1) (t := (.L .im)) rfl (pv 1)) (sa_cons (se_var (i := 2) (t := (.L .im)) rfl (pv 2)) (sa_cons (se_var (i := 3) (t := (.L .im)) rfl (pv 3)) (sa_cons (se_op (ka := (.v .im)) (kb := (.v .im)) op_sub sub_s (se_var (i := 4) (t := .im) rfl (pv 4)) (se_int)) (sa_nil)))))) (fun _ _ => rfl)))) (sss_wR (Γ2 := [.own (.L .any), .fz (.L .im), .fz (.L .im), .fz (.L .im), .fz .im, .fz .im, .fz .im, .un, .un]) (sss_nil))) (sss_cons (ss_if (Γ' := [.own (.L .any), .fz (.L .im), .fz (.L .im), .fz (.L .im), .fz .im, .fz .im, .fz .im, .un, .un]) (st_cmp (ka := (.v .im)) (kb := (.v .im)) op_lt lt_s (se_var (i := 6) (t := .im) rfl (pv 6)) (se_int) (nomark _)) (sss_one (ss_ret (se_call (sg := sg ._law_call) (ks := [.o 0, .v (.L .im), .v (.L .im), .v (.L .im), .v .im]) (t := .im) (dds := []) (dvs := []) (IH ._law_call) hr (by rfl) T.m__law_call T.k__law_call T.b__law_call .nil (passZ (E := E)) (fun _ _ _ _ z => z) (sa_o (so_sl (i := 0) (t := (.L .any)) rfl (pv 0)) (sa_cons (se_var (i := 1) (t := (.L .im)) rfl (pv 1)) (sa_cons (se_var (i := 2) (t := (.L .im)) rfl (pv 2)) (sa_cons (se_var (i := 3) (t := (.L .im)) rfl (pv 3)) (sa_cons (se_op (ka := (.v .im)) (kb := (.v .im)) op_sub sub_s (se_var (i := 4) (t := .im) rfl (pv 4)) (se_int)) (sa_nil)))))) (fun _ _ => rfl)))) (sss_wR (Γ2 := [.own (.L .any), .fz (.L .im), .fz (.L .im), .fz (.L .im), .fz .im, .fz .im, .fz .im, .un, .un]) (sss_nil))) (sss_cons (ss_if (Γ' := [.own (.L .any), .fz (.L .im), .fz (.L .im), .fz (.L .im), .fz .im, .fz .im, .fz .im, .un, .un]) (st_w (sw_and (st_cmp (ka := (.v .im)) (kb := (.v .im)) (op_eqP hu) eq_s (se_var (i := 6) (t := .im) rfl (pv 6)) (se_int) (nomark _)) (sw_and1 (st_cmp (ka := (.v .im)) (kb := (.v .im)) (op_eqP hu) eq_s (se_op (ka := (.v .im)) (kb := (.v .im)) op_mod mod_s (se_var (i := 5) (t := .im) rfl (pv 5)) (se_int)) (se_int) (nomark _))))) (sss_one (ss_ret (se_call (sg := sg ._law_funs) (ks := [.o 0, .v (.L .im), .v (.L .im), .v (.L .im), .v .im]) (t := .im) (dds := []) (dvs := []) (IH ._law_funs) hr (by rfl) T.m__law_funs T.k__law_funs T.b__law_funs .nil (passZ (E := E)) (fun _ _ _ _ z => z) (sa_o (so_sl (i := 0) (t := (.L .any)) rfl (pv 0)) (sa_cons (se_var (i := 1) (t := (.L .im)) rfl (pv 1)) (sa_cons (se_var (i := 2) (t := (.L .im)) rfl (pv 2)) (sa_cons (se_var (i := 3) (t := (.L .im)) rfl (pv 3)) (sa_cons (se_op (ka := (.v .im)) (kb := (.v .im)) op_sub sub_s (se_var (i := 4) (t := .im) rfl (pv 4)) (se_int)) (sa_nil)))))) (fun _ _ => rfl)))) (sss_wR (Γ2 := [.own (.L .any), .fz (.L .im), .fz (.L .im), .fz (.L .im), .fz .im, .fz .im, .fz .im, .un, .un]) (sss_nil))) (sss_cons (ss_set (i := 7) sc.nd rfl (by first | exact .inl rfl | exact .inr rfl) (se_call (sg := sg ._law_any) (ks := [.o 0, .v (.L .im), .v (.L .im), .v (.L .im), .v .im]) (t := .im) (dds := []) (dvs := []) (IH ._law_any) hr (by rfl) T.m__law_any T.k__law_any T.b__law_any .nil (passZ (E := E)) (fun _ _ _ _ z => z) (sa_o (so_sl (i := 0) (t := (.L .any)) rfl (pv 0)) (sa_cons (se_var (i := 1) (t := (.L .im)) rfl (pv 1)) (sa_cons (se_var (i := 2) (t := (.L .im)) rfl (pv 2)) (sa_cons (se_var (i := 3) (t := (.L .im)) rfl (pv 3)) (sa_cons (se_op (ka := (.v .im)) (kb := (.v .im)) op_sub sub_s (se_var (i := 4) (t := .im) rfl (pv 4)) (se_int)) (sa_nil)))))) (fun _ _ => rfl))) (sss_cons (ss_set (i := 8) sc.nd rfl (by first | exact .inl rfl | exact .inr rfl) (se_call (sg := sg ._law_any) (ks := [.o 0, .v (.L .im), .v (.L .im), .v (.L .im), .v .im]) (t := .im) (dds := []) (dvs := []) (IH ._law_any) hr (by rfl) T.m__law_any T.k__law_any T.b__law_any .nil (passZ (E := E)) (fun _ _ _ _ z => z) (sa_o (so_sl (i := 0) (t := (.L .any)) rfl (pv 0)) (sa_cons (se_var (i := 1) (t := (.L .im)) rfl (pv 1)) (sa_cons (se_var (i := 2) (t := (.L .im)) rfl (pv 2)) (sa_cons (se_var (i := 3) (t := (.L .im)) rfl (pv 3)) (sa_cons (se_op (ka := (.v .im)) (kb := (.v .im)) op_sub sub_s (se_var (i := 4) (t := .im) rfl (pv 4)) (se_int)) (sa_nil)))))) (fun _ _ => rfl))) (sss_cons (ss_if (Γ' := [.own (.L .any), .fz (.L .im), .fz (.L .im), .fz (.L .im), .fz .im, .fz .im, .fz .im, .fz .im, .fz .im]) (st_cmp (ka := (.v .im)) (kb := (.v .im)) (op_eqP hu) eq_s (se_var (i := 6) (t := .im) rfl (pv 6)) (se_int) (nomark _)) (sss_one (ss_ret (se_tup (ks := [.v .im, .v .im, .v .im]) (t := .im) (sa_cons (se_str) (sa_cons (se_ix (ka := (.v (.L .im))) (kb := (.v .im)) (ta := (.L .im)) (tb := .im) (t := .im) ix_seq ix_s ((sn_lst (ks := [.v .im, .v .im]) (t := .im) (sa_cons (se_str) (sa_cons (se_str) (sa_nil)))).fz) (se_op (ka := (.v .im)) (kb := (.v .im)) op_mod mod_s (se_op (ka := (.v .im)) (kb := (.v .im)) op_fdivW div_s (se_var (i := 5) (t := .im) rfl (pv 5)) (se_int)) (se_int)) (fun _ _ => rfl)) (sa_cons (se_tup (ks := [.v .im, .v .im]) (t := .im) (sa_cons (se_var (i := 7) (t := .im) rfl (pv 7)) (sa_cons (se_var (i := 8) (t := .im) rfl (pv 8)) (sa_nil)))) (sa_nil))))))) (sss_wR (Γ2 := [.own (.L .any), .fz (.L .im), .fz (.L .im), .fz (.L .im), .fz .im, .fz .im, .fz .im, .fz .im, .fz .im]) (sss_nil))) (sss_cons (ss_if (Γ' := [.own (.L .any), .fz (.L .im), .fz (.L .im), .fz (.L .im), .fz .im, .fz .im, .fz .im, .fz .im, .fz .im]) (st_cmp (ka := (.v .im)) (kb := (.v .im)) (op_eqP hu) eq_s (se_var (i := 6) (t := .im) rfl (pv 6)) (se_int) (nomark _)) (sss_one (ss_ret (se_tup (ks := [.v .im, .v .im, .v .im]) (t := .im) (sa_cons (se_str) (sa_cons (se_var (i := 7) (t := .im) rfl (pv 7)) (sa_cons (se_var (i := 8) (t := .im) rfl (pv 8)) (sa_nil))))))) (sss_wR (Γ2 := [.own (.L .any), .fz (.L .im), .fz (.L .im), .fz (.L .im), .fz .im, .fz .im, .fz .im, .fz .im, .fz .im]) (sss_nil))) (sss_one (ss_ret (se_tup (ks := [.v .im, .v .im, .v .im, .v .im]) (t := .im) (sa_cons (se_str) (sa_cons (se_ix (ka := (.v .im)) (kb := (.v .im)) (ta := .im) (tb := .im) (t := .im) ix_seq ix_s (se_str) (se_op (ka := (.v .im)) (kb := (.v .im)) op_mod mod_s (se_var (i := 5) (t := .im) rfl (pv 5)) (se_int)) (fun _ _ => rfl)) (sa_cons (se_var (i := 7) (t := .im) rfl (pv 7)) (sa_cons (se_var (i := 8) (t := .im) rfl (pv 8)) (sa_nil))))))))))))))))))))
theorem ok__law_parts (T : Txt K mg ad fd) (IH : ∀ g, FnOk P w K mg base CX0 k (ad g) (fd g) (ps g) (spF K XR0 (sg g) (rk g) (Fn k g))) : FnOk P w K mg base CX0 (k + 1) (ad ._law_parts) (fd ._law_parts) (ps ._law_parts) (spF K XR0 (sg ._law_parts) (rk ._law_parts) (Fn (k + 1) ._law_parts)) :=
  fn_body (fall := false) (β := b__law_parts (Fn k)) T.f__law_parts sc__law_parts rfl rfl rfl rfl fun cdv A outer s H E hr => by
    have sc := sc__law_parts
    have hu := hr.un
    have hu : (A.deeper (PyProof.Rows.envOfC "_law_parts" (defScope s__law_parts) s.heap.objs.size (ad ._law_parts) cdv)).units + 200 < cLine := by omega
    have hu1 : (A.deeper (PyProof.Rows.envOfC "_law_parts" (defScope s__law_parts) s.heap.objs.size (ad ._law_parts) cdv)).units + 1 < cLine := by omega
    exact sss_cons (ss_if (Γ' := [.fz .im, .un, .un]) (st_cmp (ka := (.v .im)) (kb := (.v .im)) (op_eqP hu) eq_s (se_ix (ka := (.v .im)) (kb := (.v .im)) (ta := .im) (tb := .im) (t := .im) ix_seq ix_s (se_var (i := 0) (t := .im) rfl (pv 0)) (se_int) (fun _ _ => rfl)) (se_str) (nomark _)) (sss_one (ss_retN (sn_lst (ks := [.v .im, .v .im]) (t := .im) (sa_cons (se_ix (ka := (.v .im)) (kb := (.v .im)) (ta := .im) (tb := .im) (t := .im) ix_seq ix_s (se_var (i := 0) (t := .im) rfl (pv 0)) (se_int) (fun _ _ => rfl)) (sa_cons (se_ix (ka := (.v .im)) (kb := (.v .im)) (ta := .im) (tb := .im) (t := .im) ix_seq ix_s (se_var (i := 0) (t := .im) rfl (pv 0)) (se_int) (fun _ _ => rfl)) (sa_nil)))))) (sss_wR (Γ2 := [.fz .im, .un, .un]) (sss_nil))) (sss_cons (ss_if (Γ' := [.fz .im, .un, .un]) (st_cmp (ka := (.v .im)) (kb := (.v .im)) (op_eqP hu) eq_s (se_ix (ka := (.v .im)) (kb := (.v .im)) (ta := .im) (tb := .im) (t := .im) ix_seq ix_s (se_var (i := 0) (t := .im) rfl (pv 0)) (se_int) (fun _ _ => rfl)) (se_str) (nomark _)) (sss_one (ss_retN (sn_lst (ks := [.v .im]) (t := .im) (sa_cons (se_ix (ka := (.v .im)) (kb := (.v .im)) (ta := .im) (tb := .im) (t := .im) ix_seq ix_s (se_var (i := 0) (t := .im) rfl (pv 0)) (se_int) (fun _ _ => rfl)) (sa_nil))))) (sss_wR (Γ2 := [.fz .im, .un, .un]) (sss_nil))) (sss_cons (ss_if (Γ' := [.fz .im, .un, .un]) (st_cmp (ka := (.v .im)) (kb := (.v .im)) (op_inB hu) (in_s false) (se_ix (ka := (.v .im)) (kb := (.v .im)) (ta := .im) (tb := .im) (t := .im) ix_seq ix_s (se_var (i := 0) (t := .im) rfl (pv 0)) (se_int) (fun _ _ => rfl)) (se_tup (ks := [.v .im, .v .im]) (t := .im) (sa_cons (se_str) (sa_cons (se_str) (sa_nil)))) rfl) (sss_one (ss_retN (sn_lst (ks := [.v .im, .v .im]) (t := .im) (sa_cons (se_ix (ka := (.v .im)) (kb := (.v .im)) (ta := .im) (tb := .im) (t := .im) ix_seq ix_s (se_var (i := 0) (t := .im) rfl (pv 0)) (se_int) (fun _ _ => rfl)) (sa_cons (se_ix (ka := (.v .im)) (kb := (.v .im)) (ta := .im) (tb := .im) (t := .im) ix_seq ix_s (se_var (i := 0) (t := .im) rfl (pv 0)) (se_int) (fun _ _ => rfl)) (sa_nil)))))) (sss_wR (Γ2 := [.fz .im, .un, .un]) (sss_nil))) (sss_cons (ss_if (Γ' := [.fz .im, .un, .un]) (st_cmp (ka := (.v .im)) (kb := (.v .im)) (op_eqP hu) eq_s (se_ix (ka := (.v .im)) (kb := (.v .im)) (ta := .im) (tb := .im) (t := .im) ix_seq ix_s (se_var (i := 0) (t := .im) rfl (pv 0)) (se_int) (fun _ _ => rfl)) (se_str) (nomark _)) (sss_one (ss_retN (sn_cat (ka := (.v (.L .im))) (kb := (.v (.L .im))) (ta := .im) (tb := .im) (t := .im) rfl ((sn_lc (own := [("_law_pair", 1)]) (u := .im) (t := .im) (tp := .nm 1) rfl sc.nd (si_im rfl (se_ix (ka := (.v .im)) (kb := (.v .im)) (ta := .im) (tb := .im) (t := .im) ix_seq ix_s (se_var (i := 0) (t := .im) rfl (pv 0)) (se_int) (fun _ _ => rfl))) (blkOk_by (N := ["_law_term", "_law_pair", "_law_one"]) (sc := defScope s__law_parts) (by decide +kernel)) (fun _ _ _ _ _ => gs_name (pg_name (i := 1) sc.nd rfl (by first | exact .inl rfl | exact .inr rfl))) (fun _ _ _ _ _ => pts_no) (fun _ _ _ _ _ => se_ix (ka := (.v .im)) (kb := (.v .im)) (ta := .im) (tb := .im) (t := .im) ix_seq ix_s (se_var (i := 1) (t := .im) rfl (pv 1)) (se_int) (fun _ _ => rfl))).fz) ((sn_lst (ks := [.v .im]) (t := .im) (sa_cons (se_ix (ka := (.v .im)) (kb := (.v .im)) (ta := .im) (tb := .im) (t := .im) ix_seq ix_s (se_var (i := 0) (t := .im) rfl (pv 0)) (se_int) (fun _ _ => rfl)) (sa_nil))).fz)))) (sss_wR (Γ2 := [.fz .im, .un, .un]) (sss_nil))) (sss_cons (ss_if (Γ' := [.fz .im, .un, .un]) (st_cmp (ka := (.v .im)) (kb := (.v .im)) (op_eqP hu) eq_s (se_ix (ka := (.v .im)) (kb := (.v .im)) (ta := .im) (tb := .im) (t := .im) ix_seq ix_s (se_var (i := 0) (t := .im) rfl (pv 0)) (se_int) (fun _ _ => rfl)) (se_str) (nomark _)) (sss_one (ss_retN (sn_ct (ks := [.v .im]) (t := .im) call_list_of list_s (by rfl) T.z_list (by decide +kernel) (sa_cons (se_ix (ka := (.v .im)) (kb := (.v .im)) (ta := .im) (tb := .im) (t := .im) ix_seq ix_s (se_var (i := 0) (t := .im) rfl (pv 0)) (se_int) (fun _ _ => rfl)) (sa_nil))))) (sss_wR (Γ2 := [.fz .im, .un, .un]) (sss_nil))) (sss_cons (ss_if (Γ' := [.fz .im, .un, .un]) (st_cmp (ka := (.v .im)) (kb := (.v .im)) (op_eqP hu) eq_s (se_ix (ka := (.v .im)) (kb := (.v .im)) (ta := .im) (tb := .im) (t := .im) ix_seq ix_s (se_var (i := 0) (t := .im) rfl (pv 0)) (se_int) (fun _ _ => rfl)) (se_str) (nomark _)) (sss_one (ss_retN (sn_cat (ka := (.v (.L .im))) (kb := (.v (.L .im))) (ta := .im) (tb := .im) (t := .im) rfl ((sn_lst (ks := [.v .im]) (t := .im) (sa_cons (se_ix (ka := (.v .im)) (kb := (.v .im)) (ta := .im) (tb := .im) (t := .im) ix_seq ix_s (se_var (i := 0) (t := .im) rfl (pv 0)) (se_int) (fun _ _ => rfl)) (sa_nil))).fz) ((sn_lc (own := [("_law_one", 2)]) (u := .im) (t := .im) (tp := .nm 2) rfl sc.nd (si_im rfl (se_ix (ka := (.v .im)) (kb := (.v .im)) (ta := .im) (tb := .im) (t := .im) ix_seq ix_s (se_var (i := 0) (t := .im) rfl (pv 0)) (se_int) (fun _ _ => rfl))) (blkOk_by (N := ["_law_term", "_law_pair", "_law_one"]) (sc := defScope s__law_parts) (by decide +kernel)) (fun _ _ _ _ _ => gs_name (pg_name (i := 2) sc.nd rfl (by first | exact .inl rfl | exact .inr rfl))) (fun _ _ _ _ _ => pts_no) (fun _ _ _ _ _ => se_ix (ka := (.v .im)) (kb := (.v .im)) (ta := .im) (tb := .im) (t := .im) ix_seq ix_s (se_var (i := 2) (t := .im) rfl (pv 2)) (se_int) (fun _ _ => rfl))).fz)))) (sss_wR (Γ2 := [.fz .im, .un, .un]) (sss_nil))) (sss_one (ss_retN (sn_lst (ks := []) (t := .im) (sa_nil)))))))))
theorem ok__law_look (T : Txt K mg ad fd) (IH : ∀ g, FnOk P w K mg base CX0 k (ad g) (fd g) (ps g) (spF K XR0 (sg g) (rk g) (Fn k g))) : FnOk P w K mg base CX0 (k + 1) (ad ._law_look) (fd ._law_look) (ps ._law_look) (spF K XR0 (sg ._law_look) (rk ._law_look) (Fn (k + 1) ._law_look)) :=
  fn_body (fall := true) (β := b__law_look (Fn k)) T.f__law_look sc__law_look rfl rfl rfl rfl fun cdv A outer s H E hr => by
    have sc := sc__law_look
    have hu := hr.un
    have hu : (A.deeper (PyProof.Rows.envOfC "_law_look" (defScope s__law_look) s.heap.objs.size (ad ._law_look) cdv)).units + 200 < cLine := by omega
    have hu1 : (A.deeper (PyProof.Rows.envOfC "_law_look" (defScope s__law_look) s.heap.objs.size (ad ._law_look) cdv)).units + 1 < cLine := by omega
    exact sss_wR (Γ2 := [.un, .own (.M .im), .own (.L .im), .un, .un, .un, .un]) (sss_cons (ss_setN (i := 3) sc.nd rfl (by first | exact .inl rfl | exact .inr rfl) (sn_lst (ks := []) (t := .im) (sa_nil))) (sss_cons (ss_if (Γ' := [.fz .im, .own (.M .im), .own (.L .im), .own (.L .im), .un, .un, .un]) (st_cmp (ka := (.v .im)) (kb := (.v .im)) (op_eqP hu) eq_s (se_ix (ka := (.v .im)) (kb := (.v .im)) (ta := .im) (tb := .im) (t := .im) ix_seq ix_s (se_var (i := 0) (t := .im) rfl (pv 0)) (se_int) (fun _ _ => rfl)) (se_str) (nomark _)) (sss_wR (Γ2 := [.fz .im, .own (.M .im), .own (.L .im), .own (.L .im), .un, .un, .un]) (sss_one (ss_setN (i := 3) sc.nd rfl (by first | exact .inl rfl | exact .inr rfl) (sn_lst (ks := [.v .im]) (t := .im) (sa_cons (se_ix (ka := (.v .im)) (kb := (.v .im)) (ta := .im) (tb := .im) (t := .im) ix_seq ix_s (se_var (i := 0) (t := .im) rfl (pv 0)) (se_int) (fun _ _ => rfl)) (sa_nil)))))) (sss_wR (Γ2 := [.fz .im, .own (.M .im), .own (.L .im), .own (.L .im), .un, .un, .un]) (sss_nil))) (sss_cons (ss_if (Γ' := [.fz .im, .own (.M .im), .own (.L .im), .own (.L .im), .un, .un, .un]) (st_cmp (ka := (.v .im)) (kb := (.v .im)) (op_eqP hu) eq_s (se_ix (ka := (.v .im)) (kb := (.v .im)) (ta := .im) (tb := .im) (t := .im) ix_seq ix_s (se_var (i := 0) (t := .im) rfl (pv 0)) (se_int) (fun _ _ => rfl)) (se_str) (nomark _)) (sss_wR (Γ2 := [.fz .im, .own (.M .im), .own (.L .im), .own (.L .im), .un, .un, .un]) (sss_one (ss_for (Γ := [.fz .im, .own (.M .im), .own (.L .im), .own (.L .im), .un, .un, .un]) (u := .im) (tp := .nm 4) PassesOwn.never rfl (si_im rfl (se_ix (ka := (.v .im)) (kb := (.v .im)) (ta := .im) (tb := .im) (t := .im) ix_seq ix_s (se_var (i := 0) (t := .im) rfl (pv 0)) (se_int) (fun _ _ => rfl))) (gs_name (pg_name (i := 4) sc.nd rfl (by first | exact .inl rfl | exact .inr rfl))) (sss_wR (Γ2 := [.fz .im, .own (.M .im), .own (.L .im), .own (.L .im), .un, .un, .un]) (sss_one (ss_expr (t := .im) (se_ext (i := 3) (u := .im) (ta := .im) rfl (so_sl (i := 3) (t := (.L .im)) rfl (pv 3)) (se_ix (ka := (.v .im)) (kb := (.v .im)) (ta := .im) (tb := .im) (t := .im) ix_seq ix_s (se_var (i := 4) (t := .im) rfl (pv 4)) (se_int) (fun _ _ => rfl))))))))) (sss_wR (Γ2 := [.fz .im, .own (.M .im), .own (.L .im), .own (.L .im), .un, .un, .un]) (sss_nil))) (sss_cons (ss_if (Γ' := [.fz .im, .own (.M .im), .own (.L .im), .own (.L .im), .un, .un, .un]) (st_cmp (ka := (.v .im)) (kb := (.v .im)) (op_eqP hu) eq_s (se_ix (ka := (.v .im)) (kb := (.v .im)) (ta := .im) (tb := .im) (t := .im) ix_seq ix_s (se_var (i := 0) (t := .im) rfl (pv 0)) (se_int) (fun _ _ => rfl)) (se_str) (nomark _)) (sss_wR (Γ2 := [.fz .im, .own (.M .im), .own (.L .im), .own (.L .im), .un, .un, .un]) (sss_one (ss_for (Γ := [.fz .im, .own (.M .im), .own (.L .im), .own (.L .im), .un, .un, .un]) (u := .im) (tp := .pr [.nm 5, .nm 4]) PassesOwn.never rfl (si_im rfl (se_ix (ka := (.v .im)) (kb := (.v .im)) (ta := .im) (tb := .im) (t := .im) ix_seq ix_s (se_var (i := 0) (t := .im) rfl (pv 0)) (se_int) (fun _ _ => rfl))) (gs_tup rfl rfl (gss_cons (gs_name (pg_name (i := 5) sc.nd rfl (by first | exact .inl rfl | exact .inr rfl))) (gss_cons (gs_name (pg_name (i := 4) sc.nd rfl (by first | exact .inl rfl | exact .inr rfl))) (gss_nil)))) (sss_wR (Γ2 := [.fz .im, .own (.M .im), .own (.L .im), .own (.L .im), .un, .un, .un]) (sss_cons (ss_expr (t := .im) (se_app (i := 3) (ta := .im) rfl (so_sl (i := 3) (t := (.L .im)) rfl (pv 3)) (se_var (i := 5) (t := .im) rfl (pv 5)))) (sss_one (ss_if (Γ' := [.fz .im, .own (.M .im), .own (.L .im), .own (.L .im), .fz .im, .fz .im, .un]) (st_cmp (ka := (.v .im)) (kb := (.v .im)) (op_eqP hu) eq_s (se_ix (ka := (.v .im)) (kb := (.v .im)) (ta := .im) (tb := .im) (t := .im) ix_seq ix_s (se_var (i := 4) (t := .im) rfl (pv 4)) (se_int) (fun _ _ => rfl)) (se_str) (nomark _)) (sss_wR (Γ2 := [.fz .im, .own (.M .im), .own (.L .im), .own (.L .im), .fz .im, .fz .im, .un]) (sss_one (ss_expr (t := .im) (se_app (i := 2) (ta := .im) rfl (so_sl (i := 2) (t := (.L .im)) rfl (pv 2)) (se_tup (ks := [.v .im, .v .im]) (t := .im) (sa_cons (se_var (i := 5) (t := .im) rfl (pv 5)) (sa_cons (se_var (i := 4) (t := .im) rfl (pv 4)) (sa_nil)))))))) (sss_wR (Γ2 := [.fz .im, .own (.M .im), .own (.L .im), .own (.L .im), .fz .im, .fz .im, .un]) (sss_nil))))))))) (sss_wR (Γ2 := [.fz .im, .own (.M .im), .own (.L .im), .own (.L .im), .un, .un, .un]) (sss_nil))) (sss_cons (ss_wL (Γ := [.fz .im, .own (.M .im), .own (.L .im), .own (.L .im), .un, .un, .un]) (Γ1 := [.fz .im, .own (.M .im), .own (.L .im), .fz (.L .im), .un, .un, .un]) (ss_for (Γ := [.fz .im, .own (.M .im), .own (.L .im), .fz (.L .im), .un, .un, .un]) (u := .im) (tp := .nm 5) PassesOwn.never rfl (si_list (t := (.L .im)) rfl (se_var (i := 3) (t := (.L .im)) rfl (pv 3))) (gs_name (pg_name (i := 5) sc.nd rfl (by first | exact .inl rfl | exact .inr rfl))) (sss_wR (Γ2 := [.fz .im, .own (.M .im), .own (.L .im), .fz (.L .im), .un, .un, .un]) (sss_one (ss_putD (i := 1) (t := .im) hu1 (so_sl (i := 1) (t := (.M .im)) rfl (pv 1)) (se_var (i := 5) (t := .im) rfl (pv 5)) (se_op (ka := (.v .im)) (kb := (.v .im)) op_addB add_s (se_dget2 (k := (.s 1)) (t := .im) hu1 (so_sl (i := 1) (t := (.M .im)) rfl (pv 1)) (se_var (i := 5) (t := .im) rfl (pv 5)) (se_int)) (se_int))))))) (sss_one (ss_for (Γ := [.fz .im, .own (.M .im), .own (.L .im), .fz (.L .im), .un, .un, .un]) (u := .im) (tp := .nm 6) PassesOwn.never rfl (si_list (t := (.L .im)) rfl ((sn_call (sg := sg ._law_parts) (ks := [.v .im]) (t := (.L .im)) (dds := []) (dvs := []) (IH ._law_parts) hr (by rfl) T.m__law_parts T.k__law_parts T.b__law_parts .nil (passZ (E := E)) (fun _ _ _ _ z => z) (sa_cons (se_var (i := 0) (t := .im) rfl (pv 0)) (sa_nil)) (fun _ _ => rfl)).fz)) (gs_name (pg_name (i := 6) sc.nd rfl (by first | exact .inl rfl | exact .inr rfl))) (sss_wR (Γ2 := [.fz .im, .own (.M .im), .own (.L .im), .fz (.L .im), .un, .un, .un]) (sss_one (ss_expr (t := .im) (se_call (sg := sg ._law_look) (ks := [.v .im, .o 1, .o 2]) (t := .im) (dds := []) (dvs := []) (IH ._law_look) hr (by rfl) T.m__law_look T.k__law_look T.b__law_look .nil (passZ (E := E)) (fun _ _ _ _ z => z) (sa_cons (se_var (i := 6) (t := .im) rfl (pv 6)) (sa_o (so_sl (i := 1) (t := (.M .im)) rfl (pv 1)) (sa_o (so_sl (i := 2) (t := (.L .im)) rfl (pv 2)) (sa_nil)))) (fun _ _ => rfl))))))))))))
theorem ok__law_closed_term (T : Txt K mg ad fd) (IH : ∀ g, FnOk P w K mg base CX0 k (ad g) (fd g) (ps g) (spF K XR0 (sg g) (rk g) (Fn k g))) : FnOk P w K mg base CX0 (k + 1) (ad ._law_closed_term) (fd ._law_closed_term) (ps ._law_closed_term) (spF K XR0 (sg ._law_closed_term) (rk ._law_closed_term) (Fn (k + 1) ._law_closed_term)) :=
  fn_body (fall := false) (β := b__law_closed_term (Fn k)) T.f__law_closed_term sc__law_closed_term rfl rfl rfl rfl fun cdv A outer s H E hr => by
    have sc := sc__law_closed_term
    have hu := hr.un
    have hu : (A.deeper (PyProof.Rows.envOfC "_law_closed_term" (defScope s__law_closed_term) s.heap.objs.size (ad ._law_closed_term) cdv)).units + 200 < cLine := by omega
    have hu1 : (A.deeper (PyProof.Rows.envOfC "_law_closed_term" (defScope s__law_closed_term) s.heap.objs.size (ad ._law_closed_term) cdv)).units + 1 < cLine := by omega
    exact sss_cons (ss_set (i := 3) sc.nd rfl (by first | exact .inl rfl | exact .inr rfl) (se_call (sg := sg ._law_next) (ks := [.o 0]) (t := .im) (dds := []) (dvs := []) (IH ._law_next) hr (by rfl) T.m__law_next T.k__law_next T.b__law_next .nil (passZ (E := E)) (fun _ _ _ _ z => z) (sa_o (so_sl (i := 0) (t := (.L .any)) rfl (pv 0)) (sa_nil)) (fun _ _ => rfl))) (sss_cons (ss_if (Γ' := [.own (.L .any), .fz (.L .im), .fz .im, .fz .im]) (st_cmp (ka := (.v .im)) (kb := (.v .im)) op_gt gt_s (se_op (ka := (.v .im)) (kb := (.v .im)) op_mod mod_s (se_var (i := 3) (t := .im) rfl (pv 3)) (se_int)) (se_int) (nomark _)) (sss_one (ss_ret (se_call (sg := sg ._law_let) (ks := [.o 0, .v (.L .im), .v (.L .im), .v (.L .im), .v .im]) (t := .im) (dds := []) (dvs := []) (IH ._law_let) hr (by rfl) T.m__law_let T.k__law_let T.b__law_let .nil (passZ (E := E)) (fun _ _ _ _ z => z) (sa_o (so_sl (i := 0) (t := (.L .any)) rfl (pv 0)) (sa_cons (se_var (i := 1) (t := (.L .im)) rfl (pv 1)) (sa_cons ((sn_lst (ks := []) (t := .im) (sa_nil)).fz) (sa_cons ((sn_lst (ks := []) (t := .im) (sa_nil)).fz) (sa_cons (se_var (i := 2) (t := .im) rfl (pv 2)) (sa_nil)))))) (fun _ _ => rfl)))) (sss_wR (Γ2 := [.own (.L .any), .fz (.L .im), .fz .im, .fz .im]) (sss_nil))) (sss_one (ss_ret (se_call (sg := sg ._law_any) (ks := [.o 0, .v (.L .im), .v (.L .im), .v (.L .im), .v .im]) (t := .im) (dds := []) (dvs := []) (IH ._law_any) hr (by rfl) T.m__law_any T.k__law_any T.b__law_any .nil (passZ (E := E)) (fun _ _ _ _ z => z) (sa_o (so_sl (i := 0) (t := (.L .any)) rfl (pv 0)) (sa_cons (se_var (i := 1) (t := (.L .im)) rfl (pv 1)) (sa_cons ((sn_lst (ks := []) (t := .im) (sa_nil)).fz) (sa_cons ((sn_lst (ks := []) (t := .im) (sa_nil)).fz) (sa_cons (se_var (i := 2) (t := .im) rfl (pv 2)) (sa_nil)))))) (fun _ _ => rfl)))))
theorem ok__law_due (T : Txt K mg ad fd) (IH : ∀ g, FnOk P w K mg base CX0 k (ad g) (fd g) (ps g) (spF K XR0 (sg g) (rk g) (Fn k g))) : FnOk P w K mg base CX0 (k + 1) (ad ._law_due) (fd ._law_due) (ps ._law_due) (spF K XR0 (sg ._law_due) (rk ._law_due) (Fn (k + 1) ._law_due)) :=
  fn_body (fall := false) (β := b__law_due (Fn k)) T.f__law_due sc__law_due rfl rfl rfl rfl fun cdv A outer s H E hr => by
    have sc := sc__law_due
    have hu := hr.un
    have hu : (A.deeper (PyProof.Rows.envOfC "_law_due" (defScope s__law_due) s.heap.objs.size (ad ._law_due) cdv)).units + 200 < cLine := by omega
    have hu1 : (A.deeper (PyProof.Rows.envOfC "_law_due" (defScope s__law_due) s.heap.objs.size (ad ._law_due) cdv)).units + 1 < cLine := by omega
    exact sss_cons (ss_setN (i := 1) sc.nd rfl (by first | exact .inl rfl | exact .inr rfl) (sn_dic0 (t := .im))) (sss_cons (ss_setN (i := 2) sc.nd rfl (by first | exact .inl rfl | exact .inr rfl) (sn_lst (ks := []) (t := .im) (sa_nil))) (sss_cons (ss_expr (t := .im) (se_call (sg := sg ._law_look) (ks := [.v .im, .o 1, .o 2]) (t := .im) (dds := []) (dvs := []) (IH ._law_look) hr (by rfl) T.m__law_look T.k__law_look T.b__law_look .nil (passZ (E := E)) (fun _ _ _ _ z => z) (sa_cons (se_var (i := 0) (t := .im) rfl (pv 0)) (sa_o (so_sl (i := 1) (t := (.M .im)) rfl (pv 1)) (sa_o (so_sl (i := 2) (t := (.L .im)) rfl (pv 2)) (sa_nil)))) (fun _ _ => rfl))) (sss_cons (ss_wL (Γ := [.fz .im, .own (.M .im), .own (.L .im), .un, .un, .un]) (Γ1 := [.fz .im, .fz (.M .im), .fz (.L .im), .un, .un, .un]) (ss_setN (i := 3) sc.nd rfl (by first | exact .inl rfl | exact .inr rfl) (sn_dic0 (t := .im)))) (sss_cons (ss_for (Γ := [.fz .im, .fz (.M .im), .fz (.L .im), .own (.M .im), .un, .un]) (u := .im) (tp := .pr [.nm 4, .nm 5]) PassesOwn.never rfl (si_list (t := (.L .im)) rfl (se_var (i := 2) (t := (.L .im)) rfl (pv 2))) (gs_tup rfl rfl (gss_cons (gs_name (pg_name (i := 4) sc.nd rfl (by first | exact .inl rfl | exact .inr rfl))) (gss_cons (gs_name (pg_name (i := 5) sc.nd rfl (by first | exact .inl rfl | exact .inr rfl))) (gss_nil)))) (sss_wR (Γ2 := [.fz .im, .fz (.M .im), .fz (.L .im), .own (.M .im), .un, .un]) (sss_one (ss_if (Γ' := [.fz .im, .fz (.M .im), .fz (.L .im), .own (.M .im), .fz .im, .fz .im]) (st_cmp (ka := (.v .im)) (kb := (.v .im)) (op_eqP hu) eq_s (se_dget (ka := (.v (.M .im))) (kb := (.v .im)) (t := .im) hu1 (se_var (i := 1) (t := (.M .im)) rfl (pv 1)) (se_var (i := 4) (t := .im) rfl (pv 4))) (se_int) (nomark _)) (sss_wR (Γ2 := [.fz .im, .fz (.M .im), .fz (.L .im), .own (.M .im), .fz .im, .fz .im]) (sss_cons (ss_putD (i := 3) (t := .im) hu1 (so_sl (i := 3) (t := (.M .im)) rfl (pv 3)) (se_var (i := 4) (t := .im) rfl (pv 4)) (se_int)) (sss_one (ss_while (Γ := [.fz .im, .fz (.M .im), .fz (.L .im), .own (.M .im), .fz .im, .fz .im]) (n := 100000) PassesOwn.never (st_cmp (ka := (.v .im)) (kb := (.v .im)) (op_eqP hu) eq_s (se_ix (ka := (.v .im)) (kb := (.v .im)) (ta := .im) (tb := .im) (t := .im) ix_seq ix_s (se_var (i := 5) (t := .im) rfl (pv 5)) (se_int) (fun _ _ => rfl)) (se_str) (nomark _)) (sss_wR (Γ2 := [.fz .im, .fz (.M .im), .fz (.L .im), .own (.M .im), .fz .im, .fz .im]) (sss_cons (ss_putD (i := 3) (t := .im) hu1 (so_sl (i := 3) (t := (.M .im)) rfl (pv 3)) (se_var (i := 4) (t := .im) rfl (pv 4)) (se_op (ka := (.v .im)) (kb := (.v .im)) op_addB add_s (se_dget (ka := (.s 3)) (kb := (.v .im)) (t := .im) hu1 (so_sl (i := 3) (t := (.M .im)) rfl (pv 3)) (se_var (i := 4) (t := .im) rfl (pv 4))) (se_int))) (sss_one (ss_set (i := 5) sc.nd rfl (by first | exact .inl rfl | exact .inr rfl) (se_ix (ka := (.v .im)) (kb := (.v .im)) (ta := .im) (tb := .im) (t := .im) ix_seq ix_s (se_var (i := 5) (t := .im) rfl (pv 5)) (se_int) (fun _ _ => rfl)))))))))) (sss_wR (Γ2 := [.fz .im, .fz (.M .im), .fz (.L .im), .own (.M .im), .fz .im, .fz .im]) (sss_nil)))))) (sss_one (ss_retO (i := 3) (t := (.M .im)) (pv 3)))))))
theorem ok__law_alike (T : Txt K mg ad fd) (IH : ∀ g, FnOk P w K mg base CX0 k (ad g) (fd g) (ps g) (spF K XR0 (sg g) (rk g) (Fn k g))) : FnOk P w K mg base CX0 (k + 1) (ad ._law_alike) (fd ._law_alike) (ps ._law_alike) (spF K XR0 (sg ._law_alike) (rk ._law_alike) (Fn (k + 1) ._law_alike)) :=
  fn_body (fall := false) (β := b__law_alike (Fn k)) T.f__law_alike sc__law_alike rfl rfl rfl rfl fun cdv A outer s H E hr => by
    have sc := sc__law_alike
    have hu := hr.un
    have hu : (A.deeper (PyProof.Rows.envOfC "_law_alike" (defScope s__law_alike) s.heap.objs.size (ad ._law_alike) cdv)).units + 200 < cLine := by omega
    have hu1 : (A.deeper (PyProof.Rows.envOfC "_law_alike" (defScope s__law_alike) s.heap.objs.size (ad ._law_alike) cdv)).units + 1 < cLine := by omega
    exact sss_cons (ss_if (Γ' := [.fz (.M .im), .fz (.M .im), .un, .un]) (st_w (sw_or (st_not (st_val (se_isi (k := (.v (.M .im))) (t := (.M .im)) (T := "dict") (by rfl) T.z_isinstance (by rfl) T.z_dict (by decide +kernel) rfl (se_var (i := 0) (t := (.M .im)) rfl (pv 0))))) (sw_or1 (st_cmp (ka := (.v (.M .im))) (kb := (.v (.M .im))) (op_neDD hu) neD_s (se_var (i := 0) (t := (.M .im)) rfl (pv 0)) (se_var (i := 1) (t := (.M .im)) rfl (pv 1)) (nomark _))))) (sss_one (ss_ret (se_bl))) (sss_wR (Γ2 := [.fz (.M .im), .fz (.M .im), .un, .un]) (sss_nil))) (sss_cons (ss_forD (Γ := [.fz (.M .im), .fz (.M .im), .un, .un]) (i := 0) (t := .im) (u := (.T [.im, .im])) (tp := .pr [.nm 2, .nm 3]) PassesOwn.never rfl (pi_itemsD (i := 0) (pv 0)) itD_items rfl (fun _ _ _ _ _ h => h) (gs_tup rfl rfl (gss_cons (gs_name (pg_name (i := 2) sc.nd rfl (by first | exact .inl rfl | exact .inr rfl))) (gss_cons (gs_name (pg_name (i := 3) sc.nd rfl (by first | exact .inl rfl | exact .inr rfl))) (gss_nil)))) (sss_wR (Γ2 := [.fz (.M .im), .fz (.M .im), .un, .un]) (sss_one (ss_if (Γ' := [.fz (.M .im), .fz (.M .im), .fz .im, .fz .im]) (st_w (sw_or (st_not (st_val (se_isi (k := (.v .im)) (t := .im) (T := "int") (by rfl) T.z_isinstance (by rfl) T.z_int (by decide +kernel) rfl (se_var (i := 3) (t := .im) rfl (pv 3))))) (sw_or1 (st_val (se_isi (k := (.v .im)) (t := .im) (T := "bool") (by rfl) T.z_isinstance (by rfl) T.z_bool (by decide +kernel) rfl (se_var (i := 3) (t := .im) rfl (pv 3))))))) (sss_one (ss_ret (se_bl))) (sss_wR (Γ2 := [.fz (.M .im), .fz (.M .im), .fz .im, .fz .im]) (sss_nil)))))) (sss_one (ss_ret (se_bl))))
theorem ok_law (T : Txt K mg ad fd) (IH : ∀ g, FnOk P w K mg base CX0 k (ad g) (fd g) (ps g) (spF K XR0 (sg g) (rk g) (Fn k g))) : FnOk P w K mg base CX0 (k + 1) (ad .law) (fd .law) (ps .law) (spF K XR0 (sg .law) (rk .law) (Fn (k + 1) .law)) :=
  fn_body (fall := false) (β := b_law (Fn k)) T.f_law sc_law rfl rfl rfl rfl fun cdv A outer s H E hr => by
    have sc := sc_law
    have hu := hr.un
    have hu : (A.deeper (PyProof.Rows.envOfC "law" (defScope s_law) s.heap.objs.size (ad .law) cdv)).units + 200 < cLine := by omega
    have hu1 : (A.deeper (PyProof.Rows.envOfC "law" (defScope s_law) s.heap.objs.size (ad .law) cdv)).units + 1 < cLine := by omega
    exact sss_cons (ss_setN (i := 1) sc.nd rfl (by first | exact .inl rfl | exact .inr rfl) (sn_call (sg := sg ._law_state) (ks := [.v (.L .im), .v .im]) (t := (.L .any)) (dds := []) (dvs := []) (IH ._law_state) hr (by rfl) T.m__law_state T.k__law_state T.b__law_state .nil (passZ (E := E)) (fun _ _ _ _ z => z) (sa_cons (se_var (i := 0) (t := (.L .im)) rfl (pv 0)) (sa_cons (se_int) (sa_nil))) (fun _ _ => rfl))) (sss_cons (ss_set (i := 2) sc.nd rfl (by first | exact .inl rfl | exact .inr rfl) (se_call (sg := sg ._law_next) (ks := [.o 1]) (t := .im) (dds := []) (dvs := []) (IH ._law_next) hr (by rfl) T.m__law_next T.k__law_next T.b__law_next .nil (passZ (E := E)) (fun _ _ _ _ z => z) (sa_o (so_sl (i := 1) (t := (.L .any)) rfl (pv 1)) (sa_nil)) (fun _ _ => rfl))) (sss_cons (ss_set (i := 3) sc.nd rfl (by first | exact .inl rfl | exact .inr rfl) ((sn_call (sg := sg ._law_pool) (ks := [.v .im, .v .im]) (t := (.L .im)) (dds := []) (dvs := []) (IH ._law_pool) hr (by rfl) T.m__law_pool T.k__law_pool T.b__law_pool .nil (passZ (E := E)) (fun _ _ _ _ z => z) (sa_cons (se_call (sg := sg ._law_next) (ks := [.o 1]) (t := .im) (dds := []) (dvs := []) (IH ._law_next) hr (by rfl) T.m__law_next T.k__law_next T.b__law_next .nil (passZ (E := E)) (fun _ _ _ _ z => z) (sa_o (so_sl (i := 1) (t := (.L .any)) rfl (pv 1)) (sa_nil)) (fun _ _ => rfl)) (sa_cons (se_op (ka := (.v .im)) (kb := (.v .im)) op_addB add_s (se_int) (se_op (ka := (.v .im)) (kb := (.v .im)) op_mod mod_s (se_var (i := 2) (t := .im) rfl (pv 2)) (se_int))) (sa_nil))) (fun _ _ => rfl)).fz)) (sss_cons (ss_put (i := 1) (t := .any) (so_sl (i := 1) (t := (.L .any)) rfl (pv 1)) (se_int) (se_op (ka := (.v .im)) (kb := (.v .im)) op_addB add_s (se_int) (se_op (ka := (.v .im)) (kb := (.v .im)) op_mulB mul_s (se_op (ka := (.v .im)) (kb := (.v .im)) op_mod mod_s (se_op (ka := (.v .im)) (kb := (.v .im)) op_fdivW div_s (se_var (i := 2) (t := .im) rfl (pv 2)) (se_int)) (se_int)) (se_int)))) (sss_cons (ss_set (i := 4) sc.nd rfl (by first | exact .inl rfl | exact .inr rfl) (se_call (sg := sg ._law_closed_term) (ks := [.o 1, .v (.L .im), .v .im]) (t := .im) (dds := []) (dvs := []) (IH ._law_closed_term) hr (by rfl) T.m__law_closed_term T.k__law_closed_term T.b__law_closed_term .nil (passZ (E := E)) (fun _ _ _ _ z => z) (sa_o (so_sl (i := 1) (t := (.L .any)) rfl (pv 1)) (sa_cons (se_var (i := 3) (t := (.L .im)) rfl (pv 3)) (sa_cons (se_op (ka := (.v .im)) (kb := (.v .im)) op_addB add_s (se_int) (se_op (ka := (.v .im)) (kb := (.v .im)) op_mod mod_s (se_op (ka := (.v .im)) (kb := (.v .im)) op_fdivW div_s (se_var (i := 2) (t := .im) rfl (pv 2)) (se_int)) (se_int))) (sa_nil)))) (fun _ _ => rfl))) (sss_cons (ss_put (i := 1) (t := .any) (so_sl (i := 1) (t := (.L .any)) rfl (pv 1)) (se_int) (se_int)) (sss_cons (ss_set (i := 5) sc.nd rfl (by first | exact .inl rfl | exact .inr rfl) (se_call (sg := sg ._law_let) (ks := [.o 1, .v (.L .im), .v (.L .im), .v (.L .im), .v .im]) (t := .im) (dds := []) (dvs := []) (IH ._law_let) hr (by rfl) T.m__law_let T.k__law_let T.b__law_let .nil (passZ (E := E)) (fun _ _ _ _ z => z) (sa_o (so_sl (i := 1) (t := (.L .any)) rfl (pv 1)) (sa_cons (se_var (i := 3) (t := (.L .im)) rfl (pv 3)) (sa_cons ((sn_lst (ks := []) (t := .im) (sa_nil)).fz) (sa_cons ((sn_lst (ks := []) (t := .im) (sa_nil)).fz) (sa_cons (se_int) (sa_nil)))))) (fun _ _ => rfl))) (sss_cons (ss_wL (Γ := [.fz (.L .im), .own (.L .any), .fz .im, .fz (.L .im), .fz .im, .fz .im, .un]) (Γ1 := [.fz (.L .im), .fz (.L .any), .fz .im, .fz (.L .im), .fz .im, .fz .im, .un]) (ss_setN (i := 6) sc.nd rfl (by first | exact .inl rfl | exact .inr rfl) (sn_call (sg := sg .sole) (ks := [.v .im]) (t := (.M .im)) (dds := []) (dvs := []) (IH .sole) hr (by rfl) T.m_sole T.k_sole T.b_sole .nil (passZ (E := E)) (fun _ _ _ _ z => z) (sa_cons (se_var (i := 4) (t := .im) rfl (pv 4)) (sa_nil)) (fun _ _ => rfl)))) (sss_cons (ss_if (Γ' := [.fz (.L .im), .fz (.L .any), .fz .im, .fz (.L .im), .fz .im, .fz .im, .own (.M .im)]) (st_not (st_val (se_call (sg := sg ._law_alike) (ks := [.b 6, .v (.M .im)]) (t := .im) (dds := []) (dvs := []) (IH ._law_alike) hr (by rfl) T.m__law_alike T.k__law_alike T.b__law_alike .nil (passZ (E := E)) (fun _ _ _ _ z => z) (sa_b (so_sl (i := 6) (t := (.M .im)) rfl (pv 6)) (sa_cons ((sn_call (sg := sg ._law_due) (ks := [.v .im]) (t := (.M .im)) (dds := []) (dvs := []) (IH ._law_due) hr (by rfl) T.m__law_due T.k__law_due T.b__law_due .nil (passZ (E := E)) (fun _ _ _ _ z => z) (sa_cons (se_var (i := 4) (t := .im) rfl (pv 4)) (sa_nil)) (fun _ _ => rfl)).fz) (sa_nil))) (fun _ _ => rfl)))) (sss_one (ss_ret (se_bl))) (sss_wR (Γ2 := [.fz (.L .im), .fz (.L .any), .fz .im, .fz (.L .im), .fz .im, .fz .im, .own (.M .im)]) (sss_nil))) (sss_cons (ss_putD (i := 6) (t := .im) hu1 (so_sl (i := 6) (t := (.M .im)) rfl (pv 6)) (se_ix (ka := (.v (.L .im))) (kb := (.v .im)) (ta := (.L .im)) (tb := .im) (t := .im) ix_seq ix_s (se_var (i := 3) (t := (.L .im)) rfl (pv 3)) (se_int) (fun _ _ => rfl)) (se_int)) (sss_one (ss_wL (Γ := [.fz (.L .im), .fz (.L .any), .fz .im, .fz (.L .im), .fz .im, .fz .im, .own (.M .im)]) (Γ1 := [.fz (.L .im), .fz (.L .any), .fz .im, .fz (.L .im), .fz .im, .fz .im, .fz (.M .im)]) (ss_ret (se_and (se_call (sg := sg ._law_alike) (ks := [.v (.M .im), .v (.M .im)]) (t := .im) (dds := []) (dvs := []) (IH ._law_alike) hr (by rfl) T.m__law_alike T.k__law_alike T.b__law_alike .nil (passZ (E := E)) (fun _ _ _ _ z => z) (sa_cons ((sn_call (sg := sg .sole) (ks := [.v .im]) (t := (.M .im)) (dds := []) (dvs := []) (IH .sole) hr (by rfl) T.m_sole T.k_sole T.b_sole .nil (passZ (E := E)) (fun _ _ _ _ z => z) (sa_cons (se_var (i := 5) (t := .im) rfl (pv 5)) (sa_nil)) (fun _ _ => rfl)).fz) (sa_cons ((sn_call (sg := sg ._law_due) (ks := [.v .im]) (t := (.M .im)) (dds := []) (dvs := []) (IH ._law_due) hr (by rfl) T.m__law_due T.k__law_due T.b__law_due .nil (passZ (E := E)) (fun _ _ _ _ z => z) (sa_cons (se_var (i := 5) (t := .im) rfl (pv 5)) (sa_nil)) (fun _ _ => rfl)).fz) (sa_nil))) (fun _ _ => rfl)) (se_and1 (se_call (sg := sg ._law_alike) (ks := [.v (.M .im), .v (.M .im)]) (t := .im) (dds := []) (dvs := []) (IH ._law_alike) hr (by rfl) T.m__law_alike T.k__law_alike T.b__law_alike .nil (passZ (E := E)) (fun _ _ _ _ z => z) (sa_cons ((sn_call (sg := sg .sole) (ks := [.v .im]) (t := (.M .im)) (dds := []) (dvs := []) (IH .sole) hr (by rfl) T.m_sole T.k_sole T.b_sole .nil (passZ (E := E)) (fun _ _ _ _ z => z) (sa_cons (se_var (i := 4) (t := .im) rfl (pv 4)) (sa_nil)) (fun _ _ => rfl)).fz) (sa_cons ((sn_call (sg := sg ._law_due) (ks := [.v .im]) (t := (.M .im)) (dds := []) (dvs := []) (IH ._law_due) hr (by rfl) T.m__law_due T.k__law_due T.b__law_due .nil (passZ (E := E)) (fun _ _ _ _ z => z) (sa_cons (se_var (i := 4) (t := .im) rfl (pv 4)) (sa_nil)) (fun _ _ => rfl)).fz) (sa_nil))) (fun _ _ => rfl))))))))))))))))
theorem ok_all (T : Txt K mg ad fd) : ∀ (k : Nat) (g : Fid), FnOk P w K mg base CX0 k (ad g) (fd g) (ps g) (spF K XR0 (sg g) (rk g) (Fn k g))
  | 0, g => fn_zero (fun _ => rfl) (by cases g <;> rfl)
  | k + 1, g => by
    have IH := ok_all T k
    cases g
    · exact ok_row_of T IH
    · exact ok_parts T IH
    · exact ok_bound_by T IH
    · exact ok_look_through T IH
    · exact ok_sole_rows T IH
    · exact ok_sole T IH
    · exact ok__law_next T IH
    · exact ok__law_state T IH
    · exact ok__law_pool T IH
    · exact ok__law_leaf T IH
    · exact ok__law_choose T IH
    · exact ok__law_funs T IH
    · exact ok__law_let T IH
    · exact ok__law_call T IH
    · exact ok__law_any T IH
    · exact ok__law_parts T IH
    · exact ok__law_look T IH
    · exact ok__law_closed_term T IH
    · exact ok__law_due T IH
    · exact ok__law_alike T IH
    · exact ok_law T IH
end
/-! what the top has written -/
theorem all_mk {l : PySem.W.OpenLaw} {w : World} {K : PySem.W.Frag} {h : Heap} {mg : Str → Option Value} {fa f_row_of f_parts f_bound_by f_look_through f_sole_rows f_sole f__law_next f__law_state f__law_pool f__law_leaf f__law_choose f__law_funs f__law_let f__law_call f__law_any f__law_parts f__law_look f__law_closed_term f__law_due f__law_alike f_law : Addr} (X : K.In h) (G : h.Ns mainGlobals mg) (hfa : mg "law" = some (.ref fa))
    {od_row_of an_row_of od_parts an_parts od_bound_by an_bound_by od_look_through an_look_through od_sole_rows an_sole_rows od_sole an_sole od__law_next an__law_next od__law_state an__law_state od__law_pool an__law_pool od__law_leaf an__law_leaf od__law_choose an__law_choose od__law_funs an__law_funs od__law_let an__law_let od__law_call an__law_call od__law_any an__law_any od__law_parts an__law_parts od__law_look an__law_look od__law_closed_term an__law_closed_term od__law_due an__law_due od__law_alike an__law_alike od_law an_law : Option Addr} {sl_row_of sl_parts sl_bound_by sl_look_through sl_sole_rows sl_sole sl__law_next sl__law_state sl__law_pool sl__law_leaf sl__law_choose sl__law_funs sl__law_let sl__law_call sl__law_any sl__law_parts sl__law_look sl__law_closed_term sl__law_due sl__law_alike sl_law : Array (Option Value)} {oc_row_of kV_row_of dc_row_of pm_row_of cd_row_of ct_row_of oc_parts kV_parts dc_parts pm_parts cd_parts ct_parts oc_bound_by kV_bound_by dc_bound_by pm_bound_by cd_bound_by ct_bound_by oc_look_through kV_look_through dc_look_through pm_look_through cd_look_through ct_look_through oc_sole_rows kV_sole_rows dc_sole_rows pm_sole_rows cd_sole_rows ct_sole_rows oc_sole kV_sole dc_sole pm_sole cd_sole ct_sole oc__law_next kV__law_next dc__law_next pm__law_next cd__law_next ct__law_next oc__law_state kV__law_state dc__law_state pm__law_state cd__law_state ct__law_state oc__law_pool kV__law_pool dc__law_pool pm__law_pool cd__law_pool ct__law_pool oc__law_leaf kV__law_leaf dc__law_leaf pm__law_leaf cd__law_leaf ct__law_leaf oc__law_choose kV__law_choose dc__law_choose pm__law_choose cd__law_choose ct__law_choose oc__law_funs kV__law_funs dc__law_funs pm__law_funs cd__law_funs ct__law_funs oc__law_let kV__law_let dc__law_let pm__law_let cd__law_let ct__law_let oc__law_call kV__law_call dc__law_call pm__law_call cd__law_call ct__law_call oc__law_any kV__law_any dc__law_any pm__law_any cd__law_any ct__law_any oc__law_parts kV__law_parts dc__law_parts pm__law_parts cd__law_parts ct__law_parts oc__law_look kV__law_look dc__law_look pm__law_look cd__law_look ct__law_look oc__law_closed_term kV__law_closed_term dc__law_closed_term pm__law_closed_term cd__law_closed_term ct__law_closed_term oc__law_due kV__law_due dc__law_due pm__law_due cd__law_due ct__law_due oc__law_alike kV__law_alike dc__law_alike pm__law_alike cd__law_alike ct__law_alike oc_law kV_law dc_law pm_law cd_law ct_law : Value}
    (a_row_of : PySem.W.nsIn K mainGlobals "row_of" = some (some (.ref f_row_of))) (l_row_of : K.lookup f_row_of = some ⟨oc_row_of, od_row_of, .func (PySem.W.fnOf "row_of" "row_of" (defArgs s_row_of) (defBody s_row_of) (defScope s_row_of) .none kV_row_of dc_row_of pm_row_of an_row_of cd_row_of ct_row_of), sl_row_of⟩) (c_row_of : PySem.W.codeIn K cd_row_of "row_of" = true) (k_row_of : PySem.W.keepIn K (.ref f_row_of) = true)
    (a_parts : PySem.W.nsIn K mainGlobals "parts" = some (some (.ref f_parts))) (l_parts : K.lookup f_parts = some ⟨oc_parts, od_parts, .func (PySem.W.fnOf "parts" "parts" (defArgs s_parts) (defBody s_parts) (defScope s_parts) .none kV_parts dc_parts pm_parts an_parts cd_parts ct_parts), sl_parts⟩) (c_parts : PySem.W.codeIn K cd_parts "parts" = true) (k_parts : PySem.W.keepIn K (.ref f_parts) = true)
    (a_bound_by : PySem.W.nsIn K mainGlobals "bound_by" = some (some (.ref f_bound_by))) (l_bound_by : K.lookup f_bound_by = some ⟨oc_bound_by, od_bound_by, .func (PySem.W.fnOf "bound_by" "bound_by" (defArgs s_bound_by) (defBody s_bound_by) (defScope s_bound_by) .none kV_bound_by dc_bound_by pm_bound_by an_bound_by cd_bound_by ct_bound_by), sl_bound_by⟩) (c_bound_by : PySem.W.codeIn K cd_bound_by "bound_by" = true) (k_bound_by : PySem.W.keepIn K (.ref f_bound_by) = true)
    (a_look_through : PySem.W.nsIn K mainGlobals "look_through" = some (some (.ref f_look_through))) (l_look_through : K.lookup f_look_through = some ⟨oc_look_through, od_look_through, .func (PySem.W.fnOf "look_through" "look_through" (defArgs s_look_through) (defBody s_look_through) (defScope s_look_through) .none kV_look_through dc_look_through pm_look_through an_look_through cd_look_through ct_look_through), sl_look_through⟩) (c_look_through : PySem.W.codeIn K cd_look_through "look_through" = true) (k_look_through : PySem.W.keepIn K (.ref f_look_through) = true)
    (a_sole_rows : PySem.W.nsIn K mainGlobals "sole_rows" = some (some (.ref f_sole_rows))) (l_sole_rows : K.lookup f_sole_rows = some ⟨oc_sole_rows, od_sole_rows, .func (PySem.W.fnOf "sole_rows" "sole_rows" (defArgs s_sole_rows) (defBody s_sole_rows) (defScope s_sole_rows) .none kV_sole_rows dc_sole_rows pm_sole_rows an_sole_rows cd_sole_rows ct_sole_rows), sl_sole_rows⟩) (c_sole_rows : PySem.W.codeIn K cd_sole_rows "sole_rows" = true) (k_sole_rows : PySem.W.keepIn K (.ref f_sole_rows) = true)
    (a_sole : PySem.W.nsIn K mainGlobals "sole" = some (some (.ref f_sole))) (l_sole : K.lookup f_sole = some ⟨oc_sole, od_sole, .func (PySem.W.fnOf "sole" "sole" (defArgs s_sole) (defBody s_sole) (defScope s_sole) .none kV_sole dc_sole pm_sole an_sole cd_sole ct_sole), sl_sole⟩) (c_sole : PySem.W.codeIn K cd_sole "sole" = true) (k_sole : PySem.W.keepIn K (.ref f_sole) = true)
    (a__law_next : PySem.W.nsIn K mainGlobals "_law_next" = some (some (.ref f__law_next))) (l__law_next : K.lookup f__law_next = some ⟨oc__law_next, od__law_next, .func (PySem.W.fnOf "_law_next" "_law_next" (defArgs s__law_next) (defBody s__law_next) (defScope s__law_next) .none kV__law_next dc__law_next pm__law_next an__law_next cd__law_next ct__law_next), sl__law_next⟩) (c__law_next : PySem.W.codeIn K cd__law_next "_law_next" = true) (k__law_next : PySem.W.keepIn K (.ref f__law_next) = true)
    (a__law_state : PySem.W.nsIn K mainGlobals "_law_state" = some (some (.ref f__law_state))) (l__law_state : K.lookup f__law_state = some ⟨oc__law_state, od__law_state, .func (PySem.W.fnOf "_law_state" "_law_state" (defArgs s__law_state) (defBody s__law_state) (defScope s__law_state) .none kV__law_state dc__law_state pm__law_state an__law_state cd__law_state ct__law_state), sl__law_state⟩) (c__law_state : PySem.W.codeIn K cd__law_state "_law_state" = true) (k__law_state : PySem.W.keepIn K (.ref f__law_state) = true)
    (a__law_pool : PySem.W.nsIn K mainGlobals "_law_pool" = some (some (.ref f__law_pool))) (l__law_pool : K.lookup f__law_pool = some ⟨oc__law_pool, od__law_pool, .func (PySem.W.fnOf "_law_pool" "_law_pool" (defArgs s__law_pool) (defBody s__law_pool) (defScope s__law_pool) .none kV__law_pool dc__law_pool pm__law_pool an__law_pool cd__law_pool ct__law_pool), sl__law_pool⟩) (c__law_pool : PySem.W.codeIn K cd__law_pool "_law_pool" = true) (k__law_pool : PySem.W.keepIn K (.ref f__law_pool) = true)
    (a__law_leaf : PySem.W.nsIn K mainGlobals "_law_leaf" = some (some (.ref f__law_leaf))) (l__law_leaf : K.lookup f__law_leaf = some ⟨oc__law_leaf, od__law_leaf, .func (PySem.W.fnOf "_law_leaf" "_law_leaf" (defArgs s__law_leaf) (defBody s__law_leaf) (defScope s__law_leaf) .none kV__law_leaf dc__law_leaf pm__law_leaf an__law_leaf cd__law_leaf ct__law_leaf), sl__law_leaf⟩) (c__law_leaf : PySem.W.codeIn K cd__law_leaf "_law_leaf" = true) (k__law_leaf : PySem.W.keepIn K (.ref f__law_leaf) = true)
    (a__law_choose : PySem.W.nsIn K mainGlobals "_law_choose" = some (some (.ref f__law_choose))) (l__law_choose : K.lookup f__law_choose = some ⟨oc__law_choose, od__law_choose, .func (PySem.W.fnOf "_law_choose" "_law_choose" (defArgs s__law_choose) (defBody s__law_choose) (defScope s__law_choose) .none kV__law_choose dc__law_choose pm__law_choose an__law_choose cd__law_choose ct__law_choose), sl__law_choose⟩) (c__law_choose : PySem.W.codeIn K cd__law_choose "_law_choose" = true) (k__law_choose : PySem.W.keepIn K (.ref f__law_choose) = true)
    (a__law_funs : PySem.W.nsIn K mainGlobals "_law_funs" = some (some (.ref f__law_funs))) (l__law_funs : K.lookup f__law_funs = some ⟨oc__law_funs, od__law_funs, .func (PySem.W.fnOf "_law_funs" "_law_funs" (defArgs s__law_funs) (defBody s__law_funs) (defScope s__law_funs) .none kV__law_funs dc__law_funs pm__law_funs an__law_funs cd__law_funs ct__law_funs), sl__law_funs⟩) (c__law_funs : PySem.W.codeIn K cd__law_funs "_law_funs" = true) (k__law_funs : PySem.W.keepIn K (.ref f__law_funs) = true)
    (a__law_let : PySem.W.nsIn K mainGlobals "_law_let" = some (some (.ref f__law_let))) (l__law_let : K.lookup f__law_let = some ⟨oc__law_let, od__law_let, .func (PySem.W.fnOf "_law_let" "_law_let" (defArgs s__law_let) (defBody s__law_let) (defScope s__law_let) .none kV__law_let dc__law_let pm__law_let an__law_let cd__law_let ct__law_let), sl__law_let⟩) (c__law_let : PySem.W.codeIn K cd__law_let "_law_let" = true) (k__law_let : PySem.W.keepIn K (.ref f__law_let) = true)
    (a__law_call : PySem.W.nsIn K mainGlobals "_law_call" = some (some (.ref f__law_call))) (l__law_call : K.lookup f__law_call = some ⟨oc__law_call, od__law_call, .func (PySem.W.fnOf "_law_call" "_law_call" (defArgs s__law_call) (defBody s__law_call) (defScope s__law_call) .none kV__law_call dc__law_call pm__law_call an__law_call cd__law_call ct__law_call), sl__law_call⟩) (c__law_call : PySem.W.codeIn K cd__law_call "_law_call" = true) (k__law_call : PySem.W.keepIn K (.ref f__law_call) = true)
    (a__law_any : PySem.W.nsIn K mainGlobals "_law_any" = some (some (.ref f__law_any))) (l__law_any : K.lookup f__law_any = some ⟨oc__law_any, od__law_any, .func (PySem.W.fnOf "_law_any" "_law_any" (defArgs s__law_any) (defBody s__law_any) (defScope s__law_any) .none kV__law_any dc__law_any pm__law_any an__law_any cd__law_any ct__law_any), sl__law_any⟩) (c__law_any : PySem.W.codeIn K cd__law_any "_law_any" = true) (k__law_any : PySem.W.keepIn K (.ref f__law_any) = true)
    (a__law_parts : PySem.W.nsIn K mainGlobals "_law_parts" = some (some (.ref f__law_parts))) (l__law_parts : K.lookup f__law_parts = some ⟨oc__law_parts, od__law_parts, .func (PySem.W.fnOf "_law_parts" "_law_parts" (defArgs s__law_parts) (defBody s__law_parts) (defScope s__law_parts) .none kV__law_parts dc__law_parts pm__law_parts an__law_parts cd__law_parts ct__law_parts), sl__law_parts⟩) (c__law_parts : PySem.W.codeIn K cd__law_parts "_law_parts" = true) (k__law_parts : PySem.W.keepIn K (.ref f__law_parts) = true)
    (a__law_look : PySem.W.nsIn K mainGlobals "_law_look" = some (some (.ref f__law_look))) (l__law_look : K.lookup f__law_look = some ⟨oc__law_look, od__law_look, .func (PySem.W.fnOf "_law_look" "_law_look" (defArgs s__law_look) (defBody s__law_look) (defScope s__law_look) .none kV__law_look dc__law_look pm__law_look an__law_look cd__law_look ct__law_look), sl__law_look⟩) (c__law_look : PySem.W.codeIn K cd__law_look "_law_look" = true) (k__law_look : PySem.W.keepIn K (.ref f__law_look) = true)
    (a__law_closed_term : PySem.W.nsIn K mainGlobals "_law_closed_term" = some (some (.ref f__law_closed_term))) (l__law_closed_term : K.lookup f__law_closed_term = some ⟨oc__law_closed_term, od__law_closed_term, .func (PySem.W.fnOf "_law_closed_term" "_law_closed_term" (defArgs s__law_closed_term) (defBody s__law_closed_term) (defScope s__law_closed_term) .none kV__law_closed_term dc__law_closed_term pm__law_closed_term an__law_closed_term cd__law_closed_term ct__law_closed_term), sl__law_closed_term⟩) (c__law_closed_term : PySem.W.codeIn K cd__law_closed_term "_law_closed_term" = true) (k__law_closed_term : PySem.W.keepIn K (.ref f__law_closed_term) = true)
    (a__law_due : PySem.W.nsIn K mainGlobals "_law_due" = some (some (.ref f__law_due))) (l__law_due : K.lookup f__law_due = some ⟨oc__law_due, od__law_due, .func (PySem.W.fnOf "_law_due" "_law_due" (defArgs s__law_due) (defBody s__law_due) (defScope s__law_due) .none kV__law_due dc__law_due pm__law_due an__law_due cd__law_due ct__law_due), sl__law_due⟩) (c__law_due : PySem.W.codeIn K cd__law_due "_law_due" = true) (k__law_due : PySem.W.keepIn K (.ref f__law_due) = true)
    (a__law_alike : PySem.W.nsIn K mainGlobals "_law_alike" = some (some (.ref f__law_alike))) (l__law_alike : K.lookup f__law_alike = some ⟨oc__law_alike, od__law_alike, .func (PySem.W.fnOf "_law_alike" "_law_alike" (defArgs s__law_alike) (defBody s__law_alike) (defScope s__law_alike) .none kV__law_alike dc__law_alike pm__law_alike an__law_alike cd__law_alike ct__law_alike), sl__law_alike⟩) (c__law_alike : PySem.W.codeIn K cd__law_alike "_law_alike" = true) (k__law_alike : PySem.W.keepIn K (.ref f__law_alike) = true)
    (a_law : PySem.W.nsIn K mainGlobals "law" = some (some (.ref f_law))) (l_law : K.lookup f_law = some ⟨oc_law, od_law, .func (PySem.W.fnOf "law" "law" (defArgs s_law) (defBody s_law) (defScope s_law) .none kV_law dc_law pm_law an_law cd_law ct_law), sl_law⟩) (c_law : PySem.W.codeIn K cd_law "law" = true) (k_law : PySem.W.keepIn K (.ref f_law) = true)
    (z_bool : PySem.W.nsIn K mainGlobals "bool" = some none)
    (z_dict : PySem.W.nsIn K mainGlobals "dict" = some none)
    (z_enumerate : PySem.W.nsIn K mainGlobals "enumerate" = some none)
    (z_int : PySem.W.nsIn K mainGlobals "int" = some none)
    (z_isinstance : PySem.W.nsIn K mainGlobals "isinstance" = some none)
    (z_len : PySem.W.nsIn K mainGlobals "len" = some none)
    (z_list : PySem.W.nsIn K mainGlobals "list" = some none)
    (z_min : PySem.W.nsIn K mainGlobals "min" = some none)
    (z_range : PySem.W.nsIn K mainGlobals "range" = some none)
    (z_reversed : PySem.W.nsIn K mainGlobals "reversed" = some none)
    (z_tuple : PySem.W.nsIn K mainGlobals "tuple" = some none)
    : ∃ fd : FuncData, (∀ (s : Shared) (v : Value), BindsTo s fd ⟨[v], []⟩ [("_law_script", v)]) ∧ ∀ base : Heap, K.In base → base.Ns mainGlobals mg → FnOk l.prog w K mg base CX0 200 fa fd ["_law_script"] (spF K XR0 [.fz (.L .im)] (.fz .im) (Fn 200 .law)) := by
  have e := hfa.symm.trans (PySem.W.mg_of X G a_law)
  cases e
  have F_row_of := fun_mk (st := s_row_of) l_row_of c_row_of k_row_of
  have b_row_of := F_row_of.binds (ps := ["term"]) fun _ _ _ _ _ _ us hl => match us, hl with | [_], _ => rfl
  have F_parts := fun_mk (st := s_parts) l_parts c_parts k_parts
  have b_parts := F_parts.binds (ps := ["term"]) fun _ _ _ _ _ _ us hl => match us, hl with | [_], _ => rfl
  have F_bound_by := fun_mk (st := s_bound_by) l_bound_by c_bound_by k_bound_by
  have b_bound_by := F_bound_by.binds (ps := ["term"]) fun _ _ _ _ _ _ us hl => match us, hl with | [_], _ => rfl
  have F_look_through := fun_mk (st := s_look_through) l_look_through c_look_through k_look_through
  have b_look_through := F_look_through.binds (ps := ["term", "seen", "funs"]) fun _ _ _ _ _ _ us hl => match us, hl with | [_, _, _], _ => rfl
  have F_sole_rows := fun_mk (st := s_sole_rows) l_sole_rows c_sole_rows k_sole_rows
  have b_sole_rows := F_sole_rows.binds (ps := ["term"]) fun _ _ _ _ _ _ us hl => match us, hl with | [_], _ => rfl
  have F_sole := fun_mk (st := s_sole) l_sole c_sole k_sole
  have b_sole := F_sole.binds (ps := ["term"]) fun _ _ _ _ _ _ us hl => match us, hl with | [_], _ => rfl
  have F__law_next := fun_mk (st := s__law_next) l__law_next c__law_next k__law_next
  have b__law_next := F__law_next.binds (ps := ["_law_state_here"]) fun _ _ _ _ _ _ us hl => match us, hl with | [_], _ => rfl
  have F__law_state := fun_mk (st := s__law_state) l__law_state c__law_state k__law_state
  have b__law_state := F__law_state.binds (ps := ["_law_script", "_law_left"]) fun _ _ _ _ _ _ us hl => match us, hl with | [_, _], _ => rfl
  have F__law_pool := fun_mk (st := s__law_pool) l__law_pool c__law_pool k__law_pool
  have b__law_pool := F__law_pool.binds (ps := ["_law_cell", "_law_many"]) fun _ _ _ _ _ _ us hl => match us, hl with | [_, _], _ => rfl
  have F__law_leaf := fun_mk (st := s__law_leaf) l__law_leaf c__law_leaf k__law_leaf
  have b__law_leaf := F__law_leaf.binds (ps := ["_law_cell", "_law_pool_here", "_law_scope"]) fun _ _ _ _ _ _ us hl => match us, hl with | [_, _, _], _ => rfl
  have F__law_choose := fun_mk (st := s__law_choose) l__law_choose c__law_choose k__law_choose
  have b__law_choose := F__law_choose.binds (ps := ["_law_state_here", "_law_pool_here", "_law_scope", "_law_known", "_law_fuel"]) fun _ _ _ _ _ _ us hl => match us, hl with | [_, _, _, _, _], _ => rfl
  have F__law_funs := fun_mk (st := s__law_funs) l__law_funs c__law_funs k__law_funs
  have b__law_funs := F__law_funs.binds (ps := ["_law_state_here", "_law_pool_here", "_law_scope", "_law_known", "_law_fuel"]) fun _ _ _ _ _ _ us hl => match us, hl with | [_, _, _, _, _], _ => rfl
  have F__law_let := fun_mk (st := s__law_let) l__law_let c__law_let k__law_let
  have b__law_let := F__law_let.binds (ps := ["_law_state_here", "_law_pool_here", "_law_scope", "_law_known", "_law_fuel"]) fun _ _ _ _ _ _ us hl => match us, hl with | [_, _, _, _, _], _ => rfl
  have F__law_call := fun_mk (st := s__law_call) l__law_call c__law_call k__law_call
  have b__law_call := F__law_call.binds (ps := ["_law_state_here", "_law_pool_here", "_law_scope", "_law_known", "_law_fuel"]) fun _ _ _ _ _ _ us hl => match us, hl with | [_, _, _, _, _], _ => rfl
  have F__law_any := fun_mk (st := s__law_any) l__law_any c__law_any k__law_any
  have b__law_any := F__law_any.binds (ps := ["_law_state_here", "_law_pool_here", "_law_scope", "_law_known", "_law_fuel"]) fun _ _ _ _ _ _ us hl => match us, hl with | [_, _, _, _, _], _ => rfl
  have F__law_parts := fun_mk (st := s__law_parts) l__law_parts c__law_parts k__law_parts
  have b__law_parts := F__law_parts.binds (ps := ["_law_term"]) fun _ _ _ _ _ _ us hl => match us, hl with | [_], _ => rfl
  have F__law_look := fun_mk (st := s__law_look) l__law_look c__law_look k__law_look
  have b__law_look := F__law_look.binds (ps := ["_law_term", "_law_seen", "_law_funs_here"]) fun _ _ _ _ _ _ us hl => match us, hl with | [_, _, _], _ => rfl
  have F__law_closed_term := fun_mk (st := s__law_closed_term) l__law_closed_term c__law_closed_term k__law_closed_term
  have b__law_closed_term := F__law_closed_term.binds (ps := ["_law_state_here", "_law_pool_here", "_law_fuel"]) fun _ _ _ _ _ _ us hl => match us, hl with | [_, _, _], _ => rfl
  have F__law_due := fun_mk (st := s__law_due) l__law_due c__law_due k__law_due
  have b__law_due := F__law_due.binds (ps := ["_law_term"]) fun _ _ _ _ _ _ us hl => match us, hl with | [_], _ => rfl
  have F__law_alike := fun_mk (st := s__law_alike) l__law_alike c__law_alike k__law_alike
  have b__law_alike := F__law_alike.binds (ps := ["_law_found", "_law_due_here"]) fun _ _ _ _ _ _ us hl => match us, hl with | [_, _], _ => rfl
  have F_law := fun_mk (st := s_law) l_law c_law k_law
  have b_law := F_law.binds (ps := ["_law_script"]) fun _ _ _ _ _ _ us hl => match us, hl with | [_], _ => rfl
  let ad : Fid → Addr := fun g => match g with
    | .row_of => f_row_of
    | .parts => f_parts
    | .bound_by => f_bound_by
    | .look_through => f_look_through
    | .sole_rows => f_sole_rows
    | .sole => f_sole
    | ._law_next => f__law_next
    | ._law_state => f__law_state
    | ._law_pool => f__law_pool
    | ._law_leaf => f__law_leaf
    | ._law_choose => f__law_choose
    | ._law_funs => f__law_funs
    | ._law_let => f__law_let
    | ._law_call => f__law_call
    | ._law_any => f__law_any
    | ._law_parts => f__law_parts
    | ._law_look => f__law_look
    | ._law_closed_term => f__law_closed_term
    | ._law_due => f__law_due
    | ._law_alike => f__law_alike
    | .law => fa
  let fd : Fid → FuncData := fun g => match g with
    | .row_of => PySem.W.fnOf "row_of" "row_of" (defArgs s_row_of) (defBody s_row_of) (defScope s_row_of) .none kV_row_of dc_row_of pm_row_of an_row_of cd_row_of ct_row_of
    | .parts => PySem.W.fnOf "parts" "parts" (defArgs s_parts) (defBody s_parts) (defScope s_parts) .none kV_parts dc_parts pm_parts an_parts cd_parts ct_parts
    | .bound_by => PySem.W.fnOf "bound_by" "bound_by" (defArgs s_bound_by) (defBody s_bound_by) (defScope s_bound_by) .none kV_bound_by dc_bound_by pm_bound_by an_bound_by cd_bound_by ct_bound_by
    | .look_through => PySem.W.fnOf "look_through" "look_through" (defArgs s_look_through) (defBody s_look_through) (defScope s_look_through) .none kV_look_through dc_look_through pm_look_through an_look_through cd_look_through ct_look_through
    | .sole_rows => PySem.W.fnOf "sole_rows" "sole_rows" (defArgs s_sole_rows) (defBody s_sole_rows) (defScope s_sole_rows) .none kV_sole_rows dc_sole_rows pm_sole_rows an_sole_rows cd_sole_rows ct_sole_rows
    | .sole => PySem.W.fnOf "sole" "sole" (defArgs s_sole) (defBody s_sole) (defScope s_sole) .none kV_sole dc_sole pm_sole an_sole cd_sole ct_sole
    | ._law_next => PySem.W.fnOf "_law_next" "_law_next" (defArgs s__law_next) (defBody s__law_next) (defScope s__law_next) .none kV__law_next dc__law_next pm__law_next an__law_next cd__law_next ct__law_next
    | ._law_state => PySem.W.fnOf "_law_state" "_law_state" (defArgs s__law_state) (defBody s__law_state) (defScope s__law_state) .none kV__law_state dc__law_state pm__law_state an__law_state cd__law_state ct__law_state
    | ._law_pool => PySem.W.fnOf "_law_pool" "_law_pool" (defArgs s__law_pool) (defBody s__law_pool) (defScope s__law_pool) .none kV__law_pool dc__law_pool pm__law_pool an__law_pool cd__law_pool ct__law_pool
    | ._law_leaf => PySem.W.fnOf "_law_leaf" "_law_leaf" (defArgs s__law_leaf) (defBody s__law_leaf) (defScope s__law_leaf) .none kV__law_leaf dc__law_leaf pm__law_leaf an__law_leaf cd__law_leaf ct__law_leaf
    | ._law_choose => PySem.W.fnOf "_law_choose" "_law_choose" (defArgs s__law_choose) (defBody s__law_choose) (defScope s__law_choose) .none kV__law_choose dc__law_choose pm__law_choose an__law_choose cd__law_choose ct__law_choose
    | ._law_funs => PySem.W.fnOf "_law_funs" "_law_funs" (defArgs s__law_funs) (defBody s__law_funs) (defScope s__law_funs) .none kV__law_funs dc__law_funs pm__law_funs an__law_funs cd__law_funs ct__law_funs
    | ._law_let => PySem.W.fnOf "_law_let" "_law_let" (defArgs s__law_let) (defBody s__law_let) (defScope s__law_let) .none kV__law_let dc__law_let pm__law_let an__law_let cd__law_let ct__law_let
    | ._law_call => PySem.W.fnOf "_law_call" "_law_call" (defArgs s__law_call) (defBody s__law_call) (defScope s__law_call) .none kV__law_call dc__law_call pm__law_call an__law_call cd__law_call ct__law_call
    | ._law_any => PySem.W.fnOf "_law_any" "_law_any" (defArgs s__law_any) (defBody s__law_any) (defScope s__law_any) .none kV__law_any dc__law_any pm__law_any an__law_any cd__law_any ct__law_any
    | ._law_parts => PySem.W.fnOf "_law_parts" "_law_parts" (defArgs s__law_parts) (defBody s__law_parts) (defScope s__law_parts) .none kV__law_parts dc__law_parts pm__law_parts an__law_parts cd__law_parts ct__law_parts
    | ._law_look => PySem.W.fnOf "_law_look" "_law_look" (defArgs s__law_look) (defBody s__law_look) (defScope s__law_look) .none kV__law_look dc__law_look pm__law_look an__law_look cd__law_look ct__law_look
    | ._law_closed_term => PySem.W.fnOf "_law_closed_term" "_law_closed_term" (defArgs s__law_closed_term) (defBody s__law_closed_term) (defScope s__law_closed_term) .none kV__law_closed_term dc__law_closed_term pm__law_closed_term an__law_closed_term cd__law_closed_term ct__law_closed_term
    | ._law_due => PySem.W.fnOf "_law_due" "_law_due" (defArgs s__law_due) (defBody s__law_due) (defScope s__law_due) .none kV__law_due dc__law_due pm__law_due an__law_due cd__law_due ct__law_due
    | ._law_alike => PySem.W.fnOf "_law_alike" "_law_alike" (defArgs s__law_alike) (defBody s__law_alike) (defScope s__law_alike) .none kV__law_alike dc__law_alike pm__law_alike an__law_alike cd__law_alike ct__law_alike
    | .law => PySem.W.fnOf "law" "law" (defArgs s_law) (defBody s_law) (defScope s_law) .none kV_law dc_law pm_law an_law cd_law ct_law
  have T : Txt K mg ad fd := ⟨PySem.W.mg_of X G a_row_of, k_row_of, b_row_of, F_row_of, PySem.W.mg_of X G a_parts, k_parts, b_parts, F_parts, PySem.W.mg_of X G a_bound_by, k_bound_by, b_bound_by, F_bound_by, PySem.W.mg_of X G a_look_through, k_look_through, b_look_through, F_look_through, PySem.W.mg_of X G a_sole_rows, k_sole_rows, b_sole_rows, F_sole_rows, PySem.W.mg_of X G a_sole, k_sole, b_sole, F_sole, PySem.W.mg_of X G a__law_next, k__law_next, b__law_next, F__law_next, PySem.W.mg_of X G a__law_state, k__law_state, b__law_state, F__law_state, PySem.W.mg_of X G a__law_pool, k__law_pool, b__law_pool, F__law_pool, PySem.W.mg_of X G a__law_leaf, k__law_leaf, b__law_leaf, F__law_leaf, PySem.W.mg_of X G a__law_choose, k__law_choose, b__law_choose, F__law_choose, PySem.W.mg_of X G a__law_funs, k__law_funs, b__law_funs, F__law_funs, PySem.W.mg_of X G a__law_let, k__law_let, b__law_let, F__law_let, PySem.W.mg_of X G a__law_call, k__law_call, b__law_call, F__law_call, PySem.W.mg_of X G a__law_any, k__law_any, b__law_any, F__law_any, PySem.W.mg_of X G a__law_parts, k__law_parts, b__law_parts, F__law_parts, PySem.W.mg_of X G a__law_look, k__law_look, b__law_look, F__law_look, PySem.W.mg_of X G a__law_closed_term, k__law_closed_term, b__law_closed_term, F__law_closed_term, PySem.W.mg_of X G a__law_due, k__law_due, b__law_due, F__law_due, PySem.W.mg_of X G a__law_alike, k__law_alike, b__law_alike, F__law_alike, PySem.W.mg_of X G a_law, k_law, b_law, F_law, PySem.W.mg_none_of X G z_bool, PySem.W.mg_none_of X G z_dict, PySem.W.mg_none_of X G z_enumerate, PySem.W.mg_none_of X G z_int, PySem.W.mg_none_of X G z_isinstance, PySem.W.mg_none_of X G z_len, PySem.W.mg_none_of X G z_list, PySem.W.mg_none_of X G z_min, PySem.W.mg_none_of X G z_range, PySem.W.mg_none_of X G z_reversed, PySem.W.mg_none_of X G z_tuple⟩
  exact ⟨fd .law, fun s v => .of_eq rfl, fun base _ _ => ok_all T 200 .law⟩
end Law
namespace Law
open PySem L2 VL
theorem nodup_le {l m : List Str} (nd : l.Nodup) (h : ∀ z ∈ l, z ∈ m) : l.length ≤ m.length := by
  induction l generalizing m with
  | nil => exact Nat.zero_le _
  | cons x l ih =>
    obtain ⟨n1, n2⟩ := List.nodup_cons.mp nd
    have hx := h x List.mem_cons_self
    have := ih (m := m.erase x) n2 fun z hz => (List.mem_erase_of_ne (fun (q : z = x) => n1 (q ▸ hz))).mpr (h z (List.mem_cons_of_mem _ hz))
    rw [List.length_erase_of_mem hx] at this
    have := List.length_pos_of_mem hx
    rw [List.length_cons]
    omega
theorem seq_sat {α β : SM} {ρ : List D} {Q : Fl → List D → Prop} (P : List D → Prop) (h1 : (α ρ).sat fun f ρ' => f = .nx ∧ P ρ') (h2 : ∀ ρ', P ρ' → (β ρ').sat Q) : (sSeq α β ρ).sat Q := by
  obtain ⟨f, ρ', e, rfl, hp⟩ := h1.ex
  unfold sSeq
  rw [e]
  exact h2 ρ' hp
/-- a paper as data -/
def shD (S : Sh) : D := .dic (S.map fun p => (.inr p.1, .tup [.int p.2.1, .int p.2.2]))
theorem sh_val (S : Sh) (x : Str) : dVal (S.map fun p => ((.inr p.1 : Key), D.tup [.int p.2.1, .int p.2.2])) (.inr x) = (S.at x).map fun q => .tup [.int q.1, .int q.2] := by
  unfold dVal Sh.at
  induction S with
  | nil => rfl
  | cons p r ih =>
    rw [List.map_cons, List.find?_cons, List.find?_cons]
    by_cases e : p.1 = x
    · have e1 : decide (((.inr p.1 : Key)) = .inr x) = true := decide_eq_true (by rw [e])
      have e2 : (p.1 == x) = true := by rw [e]; exact beq_self_eq_true x
      dsimp only
      rw [e1, e2]
      rfl
    · have e1 : decide (((.inr p.1 : Key)) = .inr x) = false := decide_eq_false fun q => e (Sum.inr.inj q)
      have e2 : (p.1 == x) = false := beq_eq_false_iff_ne.mpr e
      dsimp only
      rw [e1, e2]
      exact ih
theorem enumS_at : ∀ {l : List Str} {k i : Nat} {d : D}, (enumL k (l.map D.str))[i]? = some d → ∃ z, l[i]? = some z ∧ d = .tup [.int ((k + i : Nat) : Int), .str z]
  | [], _, _, _, h => by simp [enumL] at h
  | x :: r, k, 0, d, h => by
    simp [enumL] at h
    exact ⟨x, rfl, by simp [← h]⟩
  | x :: r, k, i + 1, d, h => by
    simp [enumL] at h
    obtain ⟨z, hz, e⟩ := enumS_at h
    exact ⟨z, hz, by rw [e]; simp; omega⟩
theorem cut_strs (ns : List Str) (i : Nat) : cutL (ns.map D.str) (some ((i : Int) + 1)) none = (ns.drop (i + 1)).map D.str := by
  rw [show ((i : Int) + 1) = ((i + 1 : Nat) : Int) from rfl, cutL_drop, List.map_drop]
theorem bsd_at {b : Bs} {i : Nat} {d : D} (h : b.d[i]? = some d) : ∃ x t, b.l[i]? = some (x, t) ∧ d = .tup [.str x, t.d] := by
  rw [Bs.d_l] at h
  obtain ⟨p, hp, e⟩ := map_at h
  exact ⟨p.1, p.2, hp, e⟩
theorem bs_len (b : Bs) : b.l.length = b.names.length := by rw [Bs.names_l, List.length_map]
theorem names_in {pool : List Str} {b : Bs} (g : b.gd pool) : ∀ x ∈ b.names, x ∈ pool := fun x hx => by
  rw [Bs.names_l] at hx
  obtain ⟨p, hp, rfl⟩ := List.mem_map.mp hx
  exact (Bs.gd_mem g hp).1
theorem csd_at {c : Cs} {i : Nat} {d : D} (h : c.d[i]? = some d) : ∃ s ws t, c.l[i]? = some (s, ws, t) ∧ d = .tup [.str s, .tup (ws.map D.str), t.d] := by
  rw [Cs.d_l] at h
  obtain ⟨p, hp, e⟩ := map_at h
  exact ⟨p.1, p.2.1, p.2.2, hp, e⟩
theorem of_in {l : List Str} (hl : l ≠ []) (x : Int) : ∃ z, dIx (.lst (l.map D.str)) (.int (x % (l.length : Int))) = some (.str z) ∧ z ∈ l := by
  have pl : 0 < l.length := List.length_pos_iff.mpr hl
  have h1 := Int.emod_nonneg x (show (l.length : Int) ≠ 0 by omega)
  have h2 := Int.emod_lt_of_pos x (show (0 : Int) < l.length by omega)
  refine ⟨_, dIx_strs h1 h2, ?_⟩
  have h3 : (x % (l.length : Int)).toNat < l.length := by omega
  rw [List.getD_eq_getElem?_getD, List.getElem?_eq_getElem h3]
  exact List.getElem_mem h3
theorem of_neg {l : List Str} (x : Int) (h0 : 0 ≤ x) (h : x < l.length) : ∃ z, dIx (.lst (l.map D.str)) (.int (-1 - x)) = some (.str z) ∧ z ∈ l := by
  have hi : (-1 - x + (l.length : Int)).toNat < l.length := by omega
  refine ⟨l[(-1 - x + (l.length : Int)).toNat], ?_, List.getElem_mem hi⟩
  rw [dIx_l]
  unfold atI ixN
  rw [if_neg (by omega), if_pos (by rw [List.length_map]; omega), List.length_map]
  show (l.map D.str)[_]? = _
  rw [List.getElem?_map, List.getElem?_eq_getElem hi]
  rfl
theorem lc_names {φ : EM D} {i : Nat} {ρ : List D} (P : Nat → Str → Prop) (ds : List D) (hl : ds.length ≤ 100000) (hi : i < ρ.length) (hφ : ∀ k d ρ', ds[k]? = some d → (∃ x, ρ' = ρ.set i x) → ∃ z, φ (ρ'.set i d) = .ok (.str z) (ρ'.set i d) ∧ P k z) :
    (lcL (.nm i) eYes φ ds [] ρ).sat fun acc ρ2 => (∃ ns : List Str, acc = ns.map D.str ∧ ns.length = ds.length ∧ ∀ k z, ns[k]? = some z → P k z) ∧ ∃ d, ρ2 = ρ.set i d := by
  refine lc_sat _ _ _ (fun k acc ρ2 => (∃ ns : List Str, acc = ns.map D.str ∧ ns.length = k ∧ ∀ k z, ns[k]? = some z → P k z) ∧ ∃ d, ρ2 = ρ.set i d) ⟨⟨[], rfl, rfl, fun k z e => by simp at e⟩, ρ[i], (List.set_getElem_self hi).symm⟩ (fun k d acc ρ2 hd ⟨⟨ns, ha, hk, hP⟩, x, hx⟩ => ?_) (fun acc ρ2 h => h)
  refine ⟨_, rfl, ?_⟩
  obtain ⟨z, e, hz⟩ := hφ k d ρ2 hd ⟨x, hx⟩
  have kl := (List.getElem?_eq_some_iff.mp hd).1
  rw [eYes_r, sat_ok, if_pos rfl, e, sat_ok]
  refine ⟨by rw [ha, List.length_map]; exact size_lt (by omega), ⟨ns ++ [z], by rw [ha, List.map_append]; rfl, by rw [List.length_append, hk]; rfl, fun j y e => ?_⟩, d, by rw [hx, List.set_set]⟩
  by_cases jl : j < ns.length
  · rw [List.getElem?_append_left jl] at e
    exact hP j y e
  · rw [List.getElem?_append_right (by omega)] at e
    have j0 : j - ns.length = 0 := by
      have := (List.getElem?_eq_some_iff.mp e).1
      simp at this
      omega
    rw [j0] at e
    cases e
    rw [show j = k by omega]
    exact hz
theorem of_mod {l : List Str} (h : 0 < l.length) (x : Int) : dIx (.lst (l.map D.str)) (.int (x % (l.length : Int))) = some (.str (l.getD (x % (l.length : Int)).toNat "")) := dIx_strs (Int.emod_nonneg x (by omega)) (Int.emod_lt_of_pos x (by omega))
theorem getD_mem {l : List Str} {i : Nat} (h : i < l.length) : l.getD i "" ∈ l := by
  rw [List.getD_eq_getElem?_getD, List.getElem?_eq_getElem h]
  exact List.getElem_mem h
theorem getD_inj {l : List Str} (nd : l.Nodup) {i j : Nat} (hi : i < l.length) (hj : j < l.length) (h : l.getD i "" = l.getD j "") : i = j := by
  rw [List.getD_eq_getElem?_getD, List.getElem?_eq_getElem hi, List.getD_eq_getElem?_getD, List.getElem?_eq_getElem hj] at h
  exact (List.getElem?_inj hi nd).mp (by rw [List.getElem?_eq_getElem hi, List.getElem?_eq_getElem hj, show l[i] = l[j] from h])
theorem atMany5 (x : Int) : ∃ m : Nat, 1 ≤ m ∧ m ≤ 5 ∧ dIx (.lst [.int 1, .int 2, .int 2, .int 3, .int 5]) (.int (x % 5)) = some (.int m) := by
  have h : x % 5 = 0 ∨ x % 5 = 1 ∨ x % 5 = 2 ∨ x % 5 = 3 ∨ x % 5 = 4 := by omega
  rcases h with h | h | h | h | h <;> rw [h]
  · exact ⟨1, by decide, by decide, rfl⟩
  · exact ⟨2, by decide, by decide, rfl⟩
  · exact ⟨2, by decide, by decide, rfl⟩
  · exact ⟨3, by decide, by decide, rfl⟩
  · exact ⟨5, by decide, by decide, rfl⟩
theorem atMany3 (x : Int) : ∃ m : Nat, 1 ≤ m ∧ m ≤ 3 ∧ dIx (.lst [.int 1, .int 2, .int 2, .int 3]) (.int (x % 4)) = some (.int m) := by
  have h : x % 4 = 0 ∨ x % 4 = 1 ∨ x % 4 = 2 ∨ x % 4 = 3 := by omega
  rcases h with h | h | h | h <;> rw [h]
  · exact ⟨1, by decide, by decide, rfl⟩
  · exact ⟨2, by decide, by decide, rfl⟩
  · exact ⟨2, by decide, by decide, rfl⟩
  · exact ⟨3, by decide, by decide, rfl⟩
def Bs.ofL : List (Str × Tm) → Bs
  | [] => .nil
  | p :: r => .cons p.1 p.2 (Bs.ofL r)
theorem ofL_d : ∀ l : List (Str × Tm), (Bs.ofL l).d = l.map fun p => .tup [.str p.1, p.2.d]
  | [] => rfl
  | p :: r => by rw [List.map_cons, ← ofL_d r]; rfl
theorem ofL_names : ∀ l : List (Str × Tm), (Bs.ofL l).names = l.map (·.1)
  | [] => rfl
  | p :: r => by rw [List.map_cons, ← ofL_names r]; rfl
theorem ofL_gd {pool : List Str} : ∀ {l : List (Str × Tm)}, (∀ p ∈ l, p.1 ∈ pool ∧ p.2.gd pool) → (Bs.ofL l).gd pool
  | [], _ => trivial
  | p :: r, h => ⟨(h p List.mem_cons_self).1, (h p List.mem_cons_self).2, ofL_gd fun q hq => h q (List.mem_cons_of_mem _ hq)⟩
theorem ofL_dp {k : Nat} : ∀ {l : List (Str × Tm)}, (∀ p ∈ l, p.2.dp ≤ k) → (Bs.ofL l).dp ≤ k
  | [], _ => Nat.zero_le _
  | p :: r, h => Nat.max_le.mpr ⟨h p List.mem_cons_self, ofL_dp fun q hq => h q (List.mem_cons_of_mem _ hq)⟩
theorem enum_len : ∀ (l : List D) (k : Nat), (enumL k l).length = l.length
  | [], _ => rfl
  | x :: r, k => by
    simp [enumL]
    exact enum_len r _
theorem at_nodup {S : Sh} (nd : (S.map (·.1)).Nodup) {p : Str × Nat × Int} (h : p ∈ S) : S.at p.1 = some p.2 := by
  unfold Sh.at
  induction S with
  | nil => cases h
  | cons q r ih =>
    rw [List.map_cons, List.nodup_cons] at nd
    rw [List.find?_cons]
    rcases List.mem_cons.mp h with e | e
    · subst e
      rw [beq_self_eq_true]
      rfl
    · have ne : (q.1 == p.1) = false := beq_eq_false_iff_ne.mpr fun e' => nd.1 (e' ▸ List.mem_map.mpr ⟨p, e, rfl⟩)
      rw [ne]
      exact ih nd.2 e
theorem eqD_sh {S : Sh} (nd : (S.map (·.1)).Nodup) : dEqD (shD S) (shD S) = some (.bl true) := by
  have key : ∀ T : Sh, (∀ p ∈ T, p ∈ S) → dHits (S.map fun p => ((.inr p.1 : Key), D.tup [.int p.2.1, .int p.2.2])) (T.map fun p => ((.inr p.1 : Key), D.tup [.int p.2.1, .int p.2.2])) = some true := fun T => by
    induction T with
    | nil => exact fun _ => rfl
    | cons p r ih =>
      intro h
      have hv := sh_val S p.1
      rw [at_nodup nd (h p List.mem_cons_self)] at hv
      have sm : Sm 1 (D.tup [.int p.2.1, .int p.2.2]) := Sm.tup (n := 0) fun x hx => by
        simp only [List.mem_cons, List.not_mem_nil, or_false] at hx
        rcases hx with rfl | rfl
        · exact .int ..
        · exact .int ..
      have fo : D.flatOk (D.tup [.int p.2.1, .int p.2.2]) (D.tup [.int p.2.1, .int p.2.2]) = true := by
        have pl := plain_imm _ sm.imm
        unfold D.flatOk
        rw [pl, Bool.true_and, Bool.true_and, decide_eq_true_iff, Nat.min_self]
        exact Nat.le_trans sm.dep (by decide)
      rw [List.map_cons]
      show (match dVal _ (.inr p.1) with
        | none => some false
        | some e => if D.flatOk (D.tup [.int p.2.1, .int p.2.2]) e = true then (dHits _ (r.map _)).map (D.eqv (D.tup [.int p.2.1, .int p.2.2]) e && ·) else none) = some true
      rw [hv]
      show (if D.flatOk (D.tup [.int p.2.1, .int p.2.2]) (D.tup [.int p.2.1, .int p.2.2]) = true then _ else none) = some true
      rw [if_pos fo, ih fun q hq => h q (List.mem_cons_of_mem _ hq)]
      have ev := eqv_refl (D.tup [.int p.2.1, .int p.2.2]) (plain_imm _ sm.imm)
      show some (D.eqv (D.tup [.int p.2.1, .int p.2.2]) (D.tup [.int p.2.1, .int p.2.2]) && true) = some true
      rw [ev]
      rfl
  show dEqD (.dic _) (.dic _) = _
  rw [dEqD_r, key S fun _ h => h]
  simp
theorem dSet_new {S : Sh} {x : Str} (h : x ∉ S.map (·.1)) (m : Nat) (b : Int) : dSet (S.map fun p => ((.inr p.1 : Key), D.tup [.int p.2.1, .int p.2.2])) (.inr x) (.tup [.int m, .int b]) = (S ++ [(x, m, b)]).map fun p => ((.inr p.1 : Key), D.tup [.int p.2.1, .int p.2.2]) := by
  unfold dSet
  have : ¬ ((S.map fun p => ((.inr p.1 : Key), D.tup [.int p.2.1, .int p.2.2])).any fun kv => decide (kv.1 = .inr x)) = true := by
    rw [List.any_eq_true]
    rintro ⟨kv, hk, e⟩
    obtain ⟨p, hp, rfl⟩ := List.mem_map.mp hk
    have e := of_decide_eq_true e
    exact h (List.mem_map.mpr ⟨p, hp, Sum.inr.inj e⟩)
  rw [if_neg this, List.map_append]
  rfl
end Law
namespace Law
open PySem L2 VL
/-- the numbers' state -/
def stD (a : Nat) (cs : List Int) (l s : Int) : D := .lst [.int a, .lst (cs.map D.int), .int l, .int s]
theorem next_s (n a : Nat) (cs : List Int) (l s : Int) (hl : cs.length ≤ 10000) : (Fn (n + 1) ._law_next [stD a cs l s]).sat fun d o => ∃ c : Int, d = .int c ∧ 0 ≤ c ∧ o = [stD (a + 1) cs l s] := by
  rw [show Fn (n + 1) ._law_next = mkF false 3 1 (b__law_next (Fn n)) from rfl]
  refine mkF_sat ?_
  unfold b__law_next
  have m1 : ∀ x : Int, dMul (.int x) (.int 48271) = some (.int (x * 48271)) := fun x => dMul_r (mulOk_r (by constructor <;> decide))
  have m2 : ∀ x : Int, dMul (.int x) (.int 16807) = some (.int (x * 16807)) := fun x => dMul_r (mulOk_r (by constructor <;> decide))
  have at0 : ∀ p q r t : D, atI [p, q, r, t] 0 = some p := fun _ _ _ _ => rfl
  have at1 : ∀ p q r t : D, atI [p, q, r, t] 1 = some q := fun _ _ _ _ => rfl
  have at3 : ∀ p q r t : D, atI [p, q, r, t] 3 = some t := fun _ _ _ _ => rfl
  have sq : ∀ y : Int, dMul (.int (y % 2147483647)) (.int (y % 2147483647)) = some (.int (y % 2147483647 * (y % 2147483647))) := fun y => dMul_r (mulOk_r (by
    have h1 := Int.emod_nonneg y (show (2147483647 : Int) ≠ 0 by decide)
    have h2 := Int.emod_lt_of_pos y (show (0 : Int) < 2147483647 by decide)
    rw [show (2 : Int) ^ 64 = 18446744073709551616 from rfl]
    omega))
  simp [stD, at0, at1, at3, m1, m2, sq, mod_r _ 1000000000000000000 (by decide), mod_r _ 2147483647 (by decide), mod_r _ 2147483629 (by decide)]
  split
  · rename_i c
    have ac : a < cs.length := by omega
    have e : atI (cs.map D.int) (a : Int) = some (.int cs[a]) := atI_r (by rw [List.getElem?_map, List.getElem?_eq_getElem ac]; rfl)
    simp [e, mod_r _ 1000000000000000000 (by decide)]
    exact Int.emod_nonneg _ (by decide)
  · exact Int.emod_nonneg _ (by decide)
theorem state_s (n : Nat) (cs : List Int) (l : Int) : (Fn (n + 1) ._law_state [.lst (cs.map D.int), .int l]).sat fun d _ => ∃ s : Int, d = stD 0 cs l s := by
  rw [show Fn (n + 1) ._law_state = mkF false 4 2 (b__law_state (Fn n)) from rfl]
  refine mkF_sat ?_
  unfold b__law_state
  have m1 : ∀ x : Int, dMul (.int x) (.int 31) = some (.int (x * 31)) := fun x => dMul_r (mulOk_r (by constructor <;> decide))
  simp [cut_ints]
  refine forL_sat _ _ (fun i ρ => ∃ (s : Int) (x : D), ρ = [.lst (cs.map D.int), .int l, .int s, x]) ⟨0, _, rfl⟩ (fun i d ρ hd ⟨s, x, e⟩ => ?_) (fun ρ ⟨s, x, e⟩ => ?_)
  · obtain ⟨y, hy, rfl⟩ := map_at hd
    subst e
    refine ⟨_, rfl, ?_⟩
    simp [m1, mod_r _ 1000003 (by decide)]
  · subst e
    simp
    exact ⟨s, rfl⟩
/-- the sign by which the pool's names differ -/
def sgn (c : Int) (k : Nat) : Nat := letters.cps.getD ((c / 64 + k) % 26).toNat 0
theorem letters_unlike : ∀ i j : Nat, i < 26 → j < 26 → letters.cps.getD i 0 = letters.cps.getD j 0 → i = j := by
  have key : ∀ i j : Fin 26, letters.cps.getD i.1 0 = letters.cps.getD j.1 0 → i = j := by decide +kernel
  exact fun i j hi hj h => congrArg Fin.val (key ⟨i, hi⟩ ⟨j, hj⟩ h)
theorem sgn_inj {c : Int} {i j : Nat} (hi : i < 26) (hj : j < 26) (h : sgn c i = sgn c j) : i = j := by
  have := letters_unlike _ _ (by omega) (by omega) h
  omega
theorem at_app {a b : Str} {i : Nat} (h : i < a.length) : (a ++ b).cps[i]? = a.cps[i]? := by
  rw [← Array.getElem?_toList, ← Array.getElem?_toList, toList_app, List.getElem?_append_left (by rw [Array.length_toList]; exact h)]
theorem at_app1 {a : Str} {c i : Nat} (h : i = a.length) : (a ++ (⟨#[c]⟩ : Str)).cps[i]? = some c := by
  subst h
  rw [← Array.getElem?_toList, toList_app]
  have e : a.cps.toList.length = a.length := Array.length_toList
  rw [List.getElem?_append_right (by omega), e, Nat.sub_self]
  rfl
theorem dIn_wordsT (neg : Bool) (z : Str) : dIn neg (.str z) (.tup [.str "fun", .str "let", .str "choose", .str "first", .str "stop", .str "rows", .str "in", .str "when", .str "be"]) = some (.bl (if neg = true then !decide (z ∈ words) else decide (z ∈ words))) := dIn_strT neg z words
theorem pool_s (n : Nat) (c : Int) (m : Nat) (hm : m ≤ 26) : (Fn (n + 1) ._law_pool [.int c, .int m]).sat fun d _ => ∃ ws : List Str, d = .lst (ws.map D.str) ∧ ws.length = m ∧ ws.Nodup ∧ ∀ w ∈ ws, w.length ≤ 9 := by
  rw [show Fn (n + 1) ._law_pool = mkF false 9 2 (b__law_pool (Fn n)) from rfl]
  refine mkF_sat ?_
  unfold b__law_pool
  simp [mod_r _ 8 (by decide), div_r _ 8 (by decide) (by decide)]
  have w0 : 0 ≤ c % 8 := by omega
  have w8 : c % 8 < 8 := by omega
  generalize c % 8 = w at w0 w8
  obtain ⟨w, rfl⟩ := Int.eq_ofNat_of_zero_le w0
  have e1 : (1 : Int) + (w : Int) = ((w + 1 : Nat) : Int) := by omega
  rw [e1]
  simp only [mod_r _ ((w + 1 : Nat) : Int) (by omega)]
  have t0 := Int.emod_nonneg (c / 8) (show ((w + 1 : Nat) : Int) ≠ 0 by omega)
  have t1 := Int.emod_lt_of_pos (c / 8) (show (0 : Int) < ((w + 1 : Nat) : Int) by omega)
  generalize c / 8 % ((w + 1 : Nat) : Int) = t at t0 t1
  obtain ⟨t, rfl⟩ := Int.eq_ofNat_of_zero_le t0
  have tw : t < w + 1 := by omega
  simp
  refine ⟨_, rg1_r (small_63 (by omega)), ?_⟩
  rw [Int.toNat_natCast]
  refine forUp_sat (fun k ρ => ∃ (ws : List Str) (x y z : D), ρ = [.int c, .int m, .str letters, .int ((w : Int) + 1), .int t, .lst (ws.map D.str), x, y, z] ∧ ws.length = k ∧ (∀ (i : Nat) (v : Str), ws[i]? = some v → v.cps[t]? = some (sgn c i)) ∧ ∀ v ∈ ws, v.length ≤ 9) ⟨[], _, _, _, rfl, rfl, fun i v e => by simp at e, fun v hv => by cases hv⟩ (fun k ρ hk ⟨ws, x, y, z, e, hw, hs, h9⟩ => ?_) (fun ρ ⟨ws, x, y, z, e, hw, hs, h9⟩ => ?_)
  · subst e
    simp
    refine ⟨_, rg1_r (small_63 (n := w + 1) (by omega)), ?_⟩
    rw [show ((w : Int) + 1).toNat = w + 1 by omega]
    refine forUp_sat (fun j ρ => ∃ (v : Str) (y : D), ρ = [.int c, .int m, .str letters, .int ((w : Int) + 1), .int t, .lst (ws.map D.str), .int k, .str v, y] ∧ v.length = j ∧ (t < j → v.cps[t]? = some (sgn c k))) ⟨"", _, rfl, rfl, fun h => absurd h (Nat.not_lt_zero _)⟩ (fun j ρ hj ⟨v, y, e, hv, ht⟩ => ?_) (fun ρ ⟨v, y, e, hv, ht⟩ => ?_)
    · subst e
      have i26 : ∀ x : Int, dIx (.str letters) (.int (x % 26)) = some (.str ⟨#[letters.cps.getD (x % 26).toNat 0]⟩) := fun x => dIx_sign (z := letters) (by decide) (by omega) (by rw [show letters.cps.size = 36 by decide]; omega)
      have i36 : ∀ x : Int, dIx (.str letters) (.int (x % 36)) = some (.str ⟨#[letters.cps.getD (x % 36).toNat 0]⟩) := fun x => dIx_sign (z := letters) (by decide) (by omega) (by rw [show letters.cps.size = 36 by decide]; omega)
      have i26l : ∀ x : Int, dIx (.str "abcdefghijklmnopqrstuvwxyz0123456789") (.int (x % 26)) = some (.str ⟨#[letters.cps.getD (x % 26).toNat 0]⟩) := i26
      have add1 : ∀ q : Nat, dAdd (.str v) (.str ⟨#[q]⟩) = some (.str (v ++ ⟨#[q]⟩)) := fun q => dAdd_s (Nat.le_trans (show v.length + 1 ≤ 100 by omega) (by decide))
      have m5 : dMul (.int 5) (.int (j : Int)) = some (.int (5 * j)) := dMul_r (mulOk_l (by constructor <;> decide))
      have l1 : ∀ q : Nat, (v ++ (⟨#[q]⟩ : Str)).length = j + 1 := fun q => by rw [len_app, hv]; rfl
      simp [m5, div_r c 64 (by decide) (by decide), mod_r _ 26 (by decide), i26, add1]
      split
      · rename_i e
        refine ⟨l1 _, fun h => ?_⟩
        rw [at_app1 (show t = v.length by omega)]
        simp [sgn]
      · rename_i e
        have dv := div_r c (64 + 5 * (j : Int)) (by omega) (by omega)
        have go : ∀ q : Nat, (v ++ (⟨#[q]⟩ : Str)).length = j + 1 ∧ (t < j + 1 → (v ++ (⟨#[q]⟩ : Str)).cps[t]? = some (sgn c k)) := fun q => ⟨l1 q, fun h => by
          rw [at_app (by omega)]
          exact ht (by omega)⟩
        by_cases j0 : j = 0
        · rw [if_pos j0]
          exact ⟨_, dv, _, rfl, _, mod_r _ 26 (by decide), _, i26 _, _, add1 _, _, rfl, go _⟩
        · rw [if_neg j0]
          exact ⟨_, dv, _, rfl, _, mod_r _ 36 (by decide), _, i36 _, _, add1 _, _, rfl, go _⟩
    · subst e
      have snoc : ∀ v' : Str, v'.length ≤ 9 → v'.cps[t]? = some (sgn c k) → ((ws ++ [v']).length = k + 1 ∧ (∀ (i : Nat) (u : Str), (ws ++ [v'])[i]? = some u → u.cps[t]? = some (sgn c i)) ∧ ∀ u ∈ ws ++ [v'], u.length ≤ 9) := fun v' h1 h2 => by
        refine ⟨by rw [List.length_append, hw]; rfl, fun i u e => ?_, fun u hu => ?_⟩
        · by_cases il : i < ws.length
          · rw [List.getElem?_append_left il] at e
            exact hs i u e
          · rw [List.getElem?_append_right (by omega)] at e
            have i0 : i - ws.length = 0 := by
              have := (List.getElem?_eq_some_iff.mp e).1
              simp at this
              omega
            rw [i0] at e
            cases e
            rw [show i = k by omega]
            exact h2
        · rcases List.mem_append.mp hu with q | q
          · exact h9 u q
          · rw [List.mem_singleton.mp q]
            exact h1
      have hc := ht tw
      simp [dIn_wordsT]
      split
      · have ad : dAdd (.str v) (.str "7") = some (.str (v ++ "7")) := dAdd_s (Nat.le_trans (show v.length + 1 ≤ 100 by omega) (by decide))
        have ap := fApp_strs ws (v ++ "7") (by omega)
        obtain ⟨s1, s2, s3⟩ := snoc (v ++ "7") (by rw [len_app]; show v.length + 1 ≤ 9; omega) (by rw [at_app (by omega)]; exact hc)
        refine ⟨_, ad, ?_⟩
        simp only [ap, sat_ok]
        exact ⟨ws ++ [v ++ "7"], ⟨_, _, _, rfl⟩, s1, s2, s3⟩
      · have ap := fApp_strs ws v (by omega)
        obtain ⟨s1, s2, s3⟩ := snoc v (by omega) hc
        simp only [ap, sat_ok]
        exact ⟨ws ++ [v], ⟨_, _, _, rfl⟩, s1, s2, s3⟩
  · subst e
    simp
    refine ⟨ws, rfl, hw, ?_, h9⟩
    refine List.pairwise_iff_getElem.mpr fun i j hi hj hij he => ?_
    have h1 := hs i ws[i] (List.getElem?_eq_getElem hi)
    have h2 := hs j ws[j] (List.getElem?_eq_getElem hj)
    rw [he, h2] at h1
    have := sgn_inj (by omega) (by omega) (Option.some.inj h1)
    omega
end Law
namespace Law
open PySem L2 VL
/-- a term of the pool, the state gone on -/
structure Gen (pool : List Str) (p q : Nat) (cs : List Int) (s : Int) (d : D) (o : List D) : Prop where
  out : ∃ (t : Tm) (a : Nat) (l : Int) (x y z w : D), d = t.d ∧ t.gd pool ∧ (t.dp ≤ p ∧ t.m2 ≤ q) ∧ o = [stD a cs l s, x, y, z, w]
/-- what is handed to a maker -/
structure In4 (pool pl scope known : List Str) (f : Nat) : Prop where
  hp : pool.length ≤ 100
  nd : pl.Nodup
  five : 5 ≤ pl.length
  pin : ∀ z ∈ pl, z ∈ pool
  scin : ∀ z ∈ scope, z ∈ pool
  knin : ∀ z ∈ known, z ∈ pool
  scl : scope.length + 10 * f ≤ 3000
  knl : known.length + 10 * f ≤ 3000
theorem In4.less {pool pl scope known : List Str} {f g : Nat} (h : In4 pool pl scope known f) (l : g ≤ f) : In4 pool pl scope known g := ⟨h.hp, h.nd, h.five, h.pin, h.scin, h.knin, by have := h.scl; omega, by have := h.knl; omega⟩
theorem In4.pl_len {pool pl scope known : List Str} {f : Nat} (h : In4 pool pl scope known f) : pl.length ≤ 100 := Nat.le_trans (nodup_le h.nd h.pin) h.hp
theorem In4.more {pool pl scope known : List Str} {f : Nat} (h : In4 pool pl scope known (f + 1)) {ns : List Str} (hn : ∀ z ∈ ns, z ∈ pool) (l : ns.length ≤ 10) : In4 pool pl (scope ++ ns) known f := ⟨h.hp, h.nd, h.five, h.pin, fun z hz => by
  rcases List.mem_append.mp hz with q | q
  · exact h.scin z q
  · exact hn z q, h.knin, by have := h.scl; rw [List.length_append]; omega, by have := h.knl; omega⟩
theorem In4.know {pool pl scope known : List Str} {f : Nat} (h : In4 pool pl scope known (f + 1)) {ns : List Str} (hn : ∀ z ∈ ns, z ∈ pool) (l : ns.length ≤ 10) : In4 pool pl scope (known ++ ns) f := ⟨h.hp, h.nd, h.five, h.pin, h.scin, fun z hz => by
  rcases List.mem_append.mp hz with q | q
  · exact h.knin z q
  · exact hn z q, by have := h.scl; omega, by have := h.knl; rw [List.length_append]; omega⟩
theorem leaf_s (n : Nat) (c : Int) {pool pl scope known : List Str} {f : Nat} (I : In4 pool pl scope known f) : (Fn (n + 1) ._law_leaf [.int c, .lst (pl.map D.str), .lst (scope.map D.str)]).sat fun d _ => ∃ t : Tm, d = t.d ∧ t.gd pool ∧ (t.dp ≤ 1 ∧ t.m2 = 0) := by
  rw [show Fn (n + 1) ._law_leaf = mkF false 4 3 (b__law_leaf (Fn n)) from rfl]
  refine mkF_sat ?_
  unfold b__law_leaf
  have h5 := I.five
  have hpn : pl ≠ [] := fun e => by rw [e] at h5; simp at h5
  obtain ⟨z2, e2, m2⟩ := of_in hpn (c / 15)
  have mn : (fMin [.int 3, .int (scope.length : Int)] : Option D) = some (.int (min 3 (scope.length : Int))) := by
    show some (D.int (if (scope.length : Int) < 3 then (scope.length : Int) else 3)) = _
    have : (if (scope.length : Int) < 3 then (scope.length : Int) else 3) = min 3 (scope.length : Int) := by split <;> omega
    rw [this]
  have stp : ∃ t : Tm, tStop z2 = t.d ∧ t.gd pool ∧ (t.dp ≤ 1 ∧ t.m2 = 0) := ⟨.stop z2, rfl, trivial, ⟨Nat.le_refl _, rfl⟩⟩
  have fin : ∀ x : Int, ∃ d : D, dIx (.lst [tNum (c / 20), tShape "Nil" [], tNum (c / 20 % 3), tShape "No" []]) (.int (x % 4)) = some d ∧ ∃ t : Tm, d = t.d ∧ t.gd pool ∧ (t.dp ≤ 1 ∧ t.m2 = 0) := fun x => by
    have h : x % 4 = 0 ∨ x % 4 = 1 ∨ x % 4 = 2 ∨ x % 4 = 3 := by omega
    rcases h with h | h | h | h <;> rw [h]
    · exact ⟨_, rfl, .num _, rfl, trivial, ⟨Nat.le_refl _, rfl⟩⟩
    · exact ⟨_, rfl, .bare "Nil", rfl, trivial, ⟨Nat.le_refl _, rfl⟩⟩
    · exact ⟨_, rfl, .num _, rfl, trivial, ⟨Nat.le_refl _, rfl⟩⟩
    · exact ⟨_, rfl, .bare "No", rfl, trivial, ⟨Nat.le_refl _, rfl⟩⟩
  obtain ⟨d4, e4, r4⟩ := fin (c / 5)
  simp [tNum, tShape] at e4
  simp at e2
  have rest : (sSeq (sIf (eT (eBin dEq (.v .im) (eBin dMod (.v .im) (eVar 0) (.v .im) (eC (.int 15))) (.v .im) (eC (.int 4)))) (sRet (eTup (eCons (eC (.str "stop")) (eCons (eBin dIx (.v (.L .im)) (eVar 1) (.v .im) (eBin dMod (.v .im) (eBin dDiv (.v .im) (eVar 0) (.v .im) (eC (.int 15))) (.v .im) (eCB fLen [.v (.L .im)] (eCons (eVar 1) (eNil))))) (eNil))))) (sNx)) (sSeq (sSet 3 (eLst (eCons (eTup (eCons (eC (.str "number")) (eCons (eBin dDiv (.v .im) (eVar 0) (.v .im) (eC (.int 20))) (eNil)))) (eCons (eTup (eCons (eC (.str "shape")) (eCons (eC (.str "Nil")) (eCons (eTup (eNil)) (eNil))))) (eCons (eTup (eCons (eC (.str "number")) (eCons (eBin dMod (.v .im) (eBin dDiv (.v .im) (eVar 0) (.v .im) (eC (.int 20))) (.v .im) (eC (.int 3))) (eNil)))) (eCons (eTup (eCons (eC (.str "shape")) (eCons (eC (.str "No")) (eCons (eTup (eNil)) (eNil))))) (eNil))))))) (sRet (eBin dIx (.v (.L .im)) (eVar 3) (.v .im) (eBin dMod (.v .im) (eBin dDiv (.v .im) (eVar 0) (.v .im) (eC (.int 5))) (.v .im) (eC (.int 4)))))) [.int c, .lst (pl.map D.str), .lst (scope.map D.str), .non]).sat (rets false 3 fun d _ => ∃ t : Tm, d = t.d ∧ t.gd pool ∧ (t.dp ≤ 1 ∧ t.m2 = 0)) := by
    by_cases c15 : c % 15 = 4
    · simp [mod_r _ 15 (by decide), div_r c 15 (by decide) (by decide), c15, mod_r _ (pl.length : Int) (by omega), e2]
      exact stp
    · simp [mod_r _ 15 (by decide), c15, div_r c 20 (by decide) (by decide), div_r c 5 (by decide) (by decide), mod_r _ 3 (by decide), mod_r _ 4 (by decide), e4]
      exact r4
  by_cases c0 : scope = []
  · subst c0
    refine seq_sat (fun ρ => ρ = [.int c, .lst (pl.map D.str), .lst ([].map D.str), .non]) ?_ fun ρ e => ?_
    · simp [mod_r _ 5 (by decide)]
    subst e
    refine seq_sat (fun ρ => ρ = [.int c, .lst (pl.map D.str), .lst ([].map D.str), .non]) ?_ fun ρ e => ?_
    · simp [mod_r _ 5 (by decide)]
    subst e
    exact rest
  · have sl : 0 < scope.length := List.length_pos_iff.mpr c0
    by_cases c2 : c % 5 < 2
    · obtain ⟨z, e, m⟩ := of_neg (l := scope) (c / 5 % min 3 (scope.length : Int)) (Int.emod_nonneg _ (by omega)) (by have := Int.emod_lt_of_pos (c / 5) (show 0 < min 3 (scope.length : Int) by omega); omega)
      simp at e
      simp [mod_r _ 5 (by decide), c2, sl, div_r c 5 (by decide) (by decide), mn, mod_r _ (min 3 (scope.length : Int)) (by omega), e]
      exact ⟨.name z, rfl, I.scin z m, ⟨Nat.le_refl _, rfl⟩⟩
    · by_cases c4 : c % 5 < 4
      · obtain ⟨z, e, m⟩ := of_in c0 (c / 5)
        simp at e
        simp [mod_r _ 5 (by decide), c2, c4, sl, div_r c 5 (by decide) (by decide), mod_r _ (scope.length : Int) (by omega), e]
        exact ⟨.name z, rfl, I.scin z m, ⟨Nat.le_refl _, rfl⟩⟩
      · refine seq_sat (fun ρ => ρ = [.int c, .lst (pl.map D.str), .lst (scope.map D.str), .non]) ?_ fun ρ e => ?_
        · simp [mod_r _ 5 (by decide), c2]
        subst e
        refine seq_sat (fun ρ => ρ = [.int c, .lst (pl.map D.str), .lst (scope.map D.str), .non]) ?_ fun ρ e => ?_
        · simp [mod_r _ 5 (by decide), c4]
        subst e
        exact rest
end Law
namespace Law
open PySem L2 VL
def AnyOk (pool : List Str) (f : Nat) : Prop := ∀ (F : Int) (n a : Nat) (cs : List Int) (l s : Int) (pl scope known : List Str), F ≤ f → 3 * f + 4 ≤ n → cs.length ≤ 10000 → In4 pool pl scope known (3 * f) →
  (Fn n ._law_any [stD a cs l s, .lst (pl.map D.str), .lst (scope.map D.str), .lst (known.map D.str), .int F]).sat (Gen pool (7 * f + 1) (3 * f) cs s)
section
variable {pool : List Str}
theorem funs_s (f : Nat) (ih : AnyOk pool f) (F : Int) (n a : Nat) (cs : List Int) (l s : Int) (pl scope known : List Str) (hF : F ≤ f) (hn : 3 * f + 5 ≤ n) (hc : cs.length ≤ 10000) (I : In4 pool pl scope known (3 * f + 1)) :
    (Fn n ._law_funs [stD a cs l s, .lst (pl.map D.str), .lst (scope.map D.str), .lst (known.map D.str), .int F]).sat (Gen pool (7 * f + 4) (3 * f) cs s) := by
  obtain ⟨k, rfl⟩ : ∃ k, n = k + 1 := ⟨n - 1, by omega⟩
  rw [show Fn (k + 1) ._law_funs = mkF false 10 5 (b__law_funs (Fn k)) from rfl]
  refine mkF_sat ?_
  unfold b__law_funs
  obtain ⟨j, rfl⟩ : ∃ j, k = j + 1 := ⟨k - 1, by omega⟩
  have h5 := I.five
  have hpn : pl ≠ [] := fun e => by rw [e] at h5; simp at h5
  refine seq_sat (fun ρ => ∃ c : Int, ρ = [stD (a + 1) cs l s, .lst (pl.map D.str), .lst (scope.map D.str), .lst (known.map D.str), .int F, .int c, .non, .non, .non, .non]) ?_ fun ρ ⟨c, e⟩ => ?_
  · simp
    refine (next_s j a cs l s hc).mono fun d o ⟨c, e1, _, e2⟩ => ?_
    subst e1 e2
    simp
  subst e
  refine seq_sat (fun ρ => ∃ (ns : List Str) (x : D), (∀ z ∈ ns, z ∈ pool) ∧ ns.length ≤ 3 ∧ ρ = [stD (a + 1) cs l s, .lst (pl.map D.str), .lst (scope.map D.str), .lst (known.map D.str), .int F, .int c, .lst (ns.map D.str), .non, .non, x]) ?_ fun ρ ⟨ns, x, hns, hl3, e⟩ => ?_
  · have c0 : 0 ≤ c % 3 := by omega
    have c3 : c % 3 < 3 := by omega
    simp [mod_r _ 3 (by decide)]
    generalize hq : c % 3 = q at c0 c3
    obtain ⟨q, rfl⟩ := Int.eq_ofNat_of_zero_le c0
    refine ⟨_, rg1_r (by constructor <;> omega), ?_⟩
    refine (lc_names (ρ := [stD (a + 1) cs l s, .lst (pl.map D.str), .lst (scope.map D.str), .lst (known.map D.str), .int F, .int c, .non, .non, .non, .non]) (i := 9) (fun _ z => z ∈ pl) _ (by simp [up]; omega) (by simp) (fun k d ρ' hd ⟨x, hx⟩ => ?_)).mono fun acc ρ2 ⟨⟨ns, ha, hln, hin⟩, x, hx⟩ => ?_
    · subst hx
      have kl := (List.getElem?_eq_some_iff.mp hd).1
      have kl' : k < (1 + (q : Int)).toNat := by simpa [up] using kl
      rw [up_at kl'] at hd
      cases hd
      have dm := dMul_r (i := 0 + (k : Int)) (j := c / 50 % 3) (mulOk_r (by constructor <;> omega))
      obtain ⟨z, e, m⟩ := of_in hpn (c / 3 + (0 + (k : Int)) * (c / 50 % 3))
      simp at e dm
      refine ⟨z, ?_, m⟩
      simp [div_r c 3 (by decide) (by decide), div_r c 50 (by decide) (by decide), mod_r _ 3 (by decide), dm, mod_r _ (pl.length : Int) (by omega), e]
    · subst ha hx
      refine ⟨ns, fun z hz => ?_, ?_, x, rfl⟩
      · obtain ⟨i, hi⟩ := List.getElem?_of_mem hz
        exact I.pin z (hin i z hi)
      · rw [hln]
        simp [up]
        omega
  subst e
  have cat := fCat_strs scope ns (by have := I.scl; omega)
  refine seq_sat (fun ρ => ∃ (t : Tm) (a' : Nat) (l' : Int), t.gd pool ∧ (t.dp ≤ 7 * f + 1 ∧ t.m2 ≤ 3 * f) ∧ ρ = [stD a' cs l' s, .lst (pl.map D.str), .lst (scope.map D.str), .lst (known.map D.str), .int F, .int c, .lst (ns.map D.str), t.d, .non, x]) ?_ fun ρ ⟨t, a1, l1, tg, td, e⟩ => ?_
  · simp [cat, -List.map_append]
    refine (ih F (j + 1) (a + 1) cs l s pl (scope ++ ns) known hF (by omega) hc (I.more hns (by omega))).mono fun d o ⟨t, a', l', x', y, z, w, e1, tg, td, e2⟩ => ?_
    subst e1 e2
    simp
    exact ⟨t, tg, by omega, ⟨a', l', rfl⟩, rfl⟩
  subst e
  simp
  rw [← List.map_reverse]
  refine forL_sat _ _ (fun i ρ => ∃ (u : Tm) (y : D), u.gd pool ∧ (u.dp ≤ 7 * f + 1 + i ∧ u.m2 ≤ 3 * f) ∧ ρ = [stD a1 cs l1 s, .lst (pl.map D.str), .lst (scope.map D.str), .lst (known.map D.str), .int F, .int c, .lst (ns.map D.str), u.d, y, x]) ⟨t, _, tg, td, rfl⟩ (fun i d ρ hd ⟨u, y, ug, ud, e⟩ => ?_) (fun ρ ⟨u, y, ug, ud, e⟩ => ?_)
  · obtain ⟨z, hz, rfl⟩ := map_at hd
    subst e
    refine ⟨_, rfl, ?_⟩
    simp
    exact ⟨.fn z u, ⟨hns z (List.mem_reverse.mp (List.mem_of_getElem? hz)), ug⟩, ⟨Nat.succ_le_succ ud.1, ud.2⟩, rfl⟩
  · subst e
    simp at ud
    simp
    exact ⟨u, a1, l1, _, _, _, _, rfl, ug, by omega, rfl⟩
theorem choose_s (f : Nat) (ih : AnyOk pool f) (F : Int) (n a : Nat) (cs : List Int) (l s : Int) (pl scope known : List Str) (hF : F ≤ f) (hn : 3 * f + 5 ≤ n) (hc : cs.length ≤ 10000) (I : In4 pool pl scope known (3 * f + 1)) :
    (Fn n ._law_choose [stD a cs l s, .lst (pl.map D.str), .lst (scope.map D.str), .lst (known.map D.str), .int F]).sat (Gen pool (7 * f + 5) (3 * f + 2) cs s) := by
  obtain ⟨k, rfl⟩ : ∃ k, n = k + 1 := ⟨n - 1, by omega⟩
  rw [show Fn (k + 1) ._law_choose = mkF false 11 5 (b__law_choose (Fn k)) from rfl]
  refine mkF_sat ?_
  unfold b__law_choose
  obtain ⟨j, rfl⟩ : ∃ j, k = j + 1 := ⟨k - 1, by omega⟩
  have h5 := I.five
  have hpn : pl ≠ [] := fun e => by rw [e] at h5; simp at h5
  have I0 := I.less (Nat.le_succ (3 * f))
  refine seq_sat (fun ρ => ∃ c : Int, ρ = [stD (a + 1) cs l s, .lst (pl.map D.str), .lst (scope.map D.str), .lst (known.map D.str), .int F, .int c, .non, .non, .non, .non, .non]) ?_ fun ρ ⟨c, e⟩ => ?_
  · simp
    refine (next_s j a cs l s hc).mono fun d o ⟨c, e1, _, e2⟩ => ?_
    subst e1 e2
    simp
  subst e
  refine seq_sat (fun ρ => ∃ (t1 : Tm) (a' : Nat) (l' : Int), t1.gd pool ∧ (t1.dp ≤ 7 * f + 1 ∧ t1.m2 ≤ 3 * f) ∧ ρ = [stD a' cs l' s, .lst (pl.map D.str), .lst (scope.map D.str), .lst (known.map D.str), .int F, .int c, t1.d, .non, .non, .non, .non]) ?_ fun ρ ⟨t1, a1, l1, g1, d1, e⟩ => ?_
  · simp
    refine (ih F (j + 1) (a + 1) cs l s pl scope known hF (by omega) hc I0).mono fun d o ⟨t, a', l', x', y, z, w, e1, tg, td, e2⟩ => ?_
    subst e1 e2
    simp
    exact ⟨t, tg, by omega, ⟨a', l', rfl⟩, rfl⟩
  subst e
  refine seq_sat (fun ρ => ∃ (t2 : Tm) (a' : Nat) (l' : Int), t2.gd pool ∧ (t2.dp ≤ 7 * f + 1 ∧ t2.m2 ≤ 3 * f) ∧ ρ = [stD a' cs l' s, .lst (pl.map D.str), .lst (scope.map D.str), .lst (known.map D.str), .int F, .int c, t1.d, t2.d, .non, .non, .non]) ?_ fun ρ ⟨t2, a2, l2, g2, d2, e⟩ => ?_
  · simp
    refine (ih F (j + 1) a1 cs l1 s pl scope known hF (by omega) hc I0).mono fun d o ⟨t, a', l', x', y, z, w, e1, tg, td, e2⟩ => ?_
    subst e1 e2
    simp
    exact ⟨t, tg, by omega, ⟨a', l', rfl⟩, rfl⟩
  subst e
  have m3 := mod_r c 3 (by decide)
  have sm2 : ∀ {b1 b2 : Str} {w1 w2 : List Str} {u1 u2 : Tm} {p : Str × List Str × Tm}, p ∈ (Cs.cons b1 w1 u1 (.cons b2 w2 u2 .nil)).l → w1.length ≤ 2 → w2.length ≤ 2 → p.2.1.length ≤ 2 := fun {b1 b2 w1 w2 u1 u2 p} hp h1 h2 => by
    have hp : p ∈ [(b1, w1, u1), (b2, w2, u2)] := hp
    simp only [List.mem_cons, List.not_mem_nil, or_false] at hp
    rcases hp with rfl | rfl
    · exact h1
    · exact h2
  have sm1 : ∀ {b1 : Str} {w1 : List Str} {u1 : Tm} {p : Str × List Str × Tm}, p ∈ (Cs.cons b1 w1 u1 .nil).l → w1.length ≤ 2 → p.2.1.length ≤ 2 := fun {b1 w1 u1 p} hp h1 => by
    have hp : p ∈ [(b1, w1, u1)] := hp
    rw [List.mem_singleton.mp hp]
    exact h1
  have mk : ∀ {a1 b1 c1 a2 b2 c2 : Nat}, (a1 ≤ 7 * f + 1 ∧ a2 ≤ 3 * f) → (b1 ≤ 7 * f + 1 ∧ b2 ≤ 3 * f) → (c1 ≤ 7 * f + 1 ∧ c2 ≤ 3 * f) → max a1 (max b1 (max c1 0)) + 1 ≤ 7 * f + 5 ∧ max a2 (max b2 (max c2 0)) + 2 ≤ 3 * f + 2 := fun h1 h2 h3 => by omega
  by_cases c3 : c % 3 = 0
  · simp [m3, c3]
    refine (ih F (j + 1) a2 cs l2 s pl scope known hF (by omega) hc I0).mono fun d o ⟨t, a', l', x', y, z, w, e1, tg, td, e2⟩ => ?_
    subst e1 e2
    simp
    exact ⟨.choose t1 (.cons "No" [] t2 (.cons "Yes" [] t .nil)), a', l', _, _, _, _, rfl, ⟨g1, ⟨nofun, g2, nofun, tg, trivial⟩, by show 2 ≤ 2; decide, fun p hp => sm2 hp (Nat.zero_le _) (Nat.zero_le _)⟩, mk d1 d2 td, rfl⟩
  refine seq_sat (fun ρ => ρ = [stD a2 cs l2 s, .lst (pl.map D.str), .lst (scope.map D.str), .lst (known.map D.str), .int F, .int c, t1.d, t2.d, .non, .non, .non]) ?_ fun ρ e => ?_
  · simp [m3, c3]
  subst e
  refine seq_sat (fun ρ => ∃ h : Int, ρ = [stD a2 cs l2 s, .lst (pl.map D.str), .lst (scope.map D.str), .lst (known.map D.str), .int F, .int c, t1.d, t2.d, .int (h % (pl.length : Int)), .non, .non]) ?_ fun ρ ⟨h, e⟩ => ?_
  · simp [div_r c 3 (by decide) (by decide), mod_r _ (pl.length : Int) (by omega)]
    exact ⟨_, rfl⟩
  subst e
  refine seq_sat (fun ρ => ∃ x y : Str, x ∈ pl ∧ y ∈ pl ∧ ρ = [stD a2 cs l2 s, .lst (pl.map D.str), .lst (scope.map D.str), .lst (known.map D.str), .int F, .int c, t1.d, t2.d, .int (h % (pl.length : Int)), .tup ([x, y].map D.str), .non]) ?_ fun ρ ⟨x, y, hx, hy, e⟩ => ?_
  · obtain ⟨z1, e1, i1⟩ := of_in hpn h
    obtain ⟨z2, e2, i2⟩ := of_in hpn (h % (pl.length : Int) + 1 + c / 100 % ((pl.length : Int) - 1))
    simp at e1 e2
    simp [div_r c 100 (by decide) (by decide), mod_r _ ((pl.length : Int) - 1) (by omega), mod_r _ (pl.length : Int) (by omega), e1, e2]
    exact ⟨i1, i2⟩
  subst e
  have sc := fCat_strs scope [x, y] (by have := I.scl; simp; omega)
  have nin : ∀ z ∈ [x, y], z ∈ pool := fun z q => by
    simp only [List.mem_cons, List.not_mem_nil, or_false] at q
    rcases q with rfl | rfl
    · exact I.pin _ hx
    · exact I.pin _ hy
  refine seq_sat (fun ρ => ∃ (t3 : Tm) (a' : Nat) (l' : Int), t3.gd pool ∧ (t3.dp ≤ 7 * f + 1 ∧ t3.m2 ≤ 3 * f) ∧ ρ = [stD a' cs l' s, .lst (pl.map D.str), .lst (scope.map D.str), .lst (known.map D.str), .int F, .int c, t1.d, t2.d, .int (h % (pl.length : Int)), .tup ([x, y].map D.str), t3.d]) ?_ fun ρ ⟨t3, a3, l3, g3, d3, e⟩ => ?_
  · simp only [List.map_cons, List.map_nil] at sc
    simp [sc, -List.map_append]
    refine (ih F (j + 1) a2 cs l2 s pl (scope ++ [x, y]) known hF (by omega) hc (I.more nin (show 2 ≤ 10 by decide))).mono fun d o ⟨t, a', l', x', y, z, w, e1, tg, td, e2⟩ => ?_
    subst e1 e2
    simp
    exact ⟨t, tg, by omega, ⟨a', l', rfl⟩, rfl⟩
  subst e
  by_cases c1 : c % 3 = 1
  · simp [m3, c1]
    exact ⟨.choose t1 (.cons "Pair" [x, y] t3 .nil), a3, l3, _, _, _, _, rfl, ⟨g1, ⟨nin, g3, trivial⟩, by show 1 ≤ 2; decide, fun p hp => sm1 hp (Nat.le_refl 2)⟩, by show max t1.dp (max t3.dp 0) + 1 ≤ _ ∧ max t1.m2 (max t3.m2 0) + 2 ≤ _; omega, rfl⟩
  · simp [m3, c1]
    exact ⟨.choose t1 (.cons "Nil" [] t2 (.cons "Cons" [x, y] t3 .nil)), a3, l3, _, _, _, _, rfl, ⟨g1, ⟨nofun, g2, nin, g3, trivial⟩, by show 2 ≤ 2; decide, fun p hp => sm2 hp (Nat.zero_le _) (Nat.le_refl 2)⟩, mk d1 d2 d3, rfl⟩
end
end Law
namespace Law
open PySem L2 VL
theorem ofL_m2 {k : Nat} : ∀ {l : List (Str × Tm)}, (∀ p ∈ l, p.2.m2 ≤ k) → (Bs.ofL l).m2 ≤ k
  | [], _ => Nat.zero_le _
  | p :: r, h => Nat.max_le.mpr ⟨h p List.mem_cons_self, ofL_m2 fun q hq => h q (List.mem_cons_of_mem _ hq)⟩
/-- the things made so far -/
structure LetI (pool pl : List Str) (cs : List Int) (s : Int) (fl : List D) (f : Nat) (ns : List Str) (i : Nat) (ρ : List D) : Prop where
  out : ∃ (a : Nat) (l : Int) (ps : List (Str × Tm)) (y z : D), ρ = stD a cs l s :: fl ++ [.lst (ps.map fun p => .tup [.str p.1, p.2.d]), y, z] ∧ ps.map (·.1) = ns.take i ∧ ∀ p ∈ ps, p.1 ∈ pool ∧ p.2.gd pool ∧ (p.2.dp ≤ 7 * f + 4 ∧ p.2.m2 ≤ 3 * f)
section
variable {pool : List Str}
theorem let_s (f : Nat) (ih : AnyOk pool f) (F : Int) (n a : Nat) (cs : List Int) (l s : Int) (pl scope known : List Str) (hF : F ≤ f) (hn : 3 * f + 6 ≤ n) (hc : cs.length ≤ 10000) (I : In4 pool pl scope known (3 * f + 3)) :
    (Fn n ._law_let [stD a cs l s, .lst (pl.map D.str), .lst (scope.map D.str), .lst (known.map D.str), .int F]).sat (Gen pool (7 * f + 5) (3 * f + 3) cs s) := by
  obtain ⟨k, rfl⟩ : ∃ k, n = k + 1 := ⟨n - 1, by omega⟩
  rw [show Fn (k + 1) ._law_let = mkF false 13 5 (b__law_let (Fn k)) from rfl]
  refine mkF_sat ?_
  unfold b__law_let
  obtain ⟨j, rfl⟩ : ∃ j, k = j + 1 := ⟨k - 1, by omega⟩
  have h5 := I.five
  have at2 : ∀ p q r t : D, atI [p, q, r, t] 2 = some r := fun _ _ _ _ => rfl
  refine seq_sat (fun ρ => ∃ c : Int, ρ = [stD (a + 1) cs l s, .lst (pl.map D.str), .lst (scope.map D.str), .lst (known.map D.str), .int F, .int c, .non, .non, .non, .non, .non, .non, .non]) ?_ fun ρ ⟨c, e⟩ => ?_
  · simp
    refine (next_s j a cs l s hc).mono fun d o ⟨c, e1, _, e2⟩ => ?_
    subst e1 e2
    simp
  subst e
  obtain ⟨m, m1, m5, em⟩ := atMany5 c
  refine seq_sat (fun ρ => ρ = [stD (a + 1) cs l s, .lst (pl.map D.str), .lst (scope.map D.str), .lst (known.map D.str), .int F, .int c, .int m, .non, .non, .non, .non, .non, .non]) ?_ fun ρ e => ?_
  · simp at em
    simp [mod_r _ 5 (by decide), em]
  subst e
  refine seq_sat (fun ρ => ∃ l : Int, ρ = [stD (a + 1) cs l s, .lst (pl.map D.str), .lst (scope.map D.str), .lst (known.map D.str), .int F, .int c, .int m, .non, .non, .non, .non, .non, .non]) ?_ fun ρ ⟨l, e⟩ => ?_
  · simp [stD, at2]
  subst e
  refine seq_sat (fun ρ => ∃ (ns : List Str) (x : D), ns.length = m ∧ ns.Nodup ∧ (∀ z ∈ ns, z ∈ pool) ∧ ρ = [stD (a + 1) cs l s, .lst (pl.map D.str), .lst (scope.map D.str), .lst (known.map D.str), .int F, .int c, .int m, .lst (ns.map D.str), .non, .non, .non, .non, x]) ?_ fun ρ ⟨ns, x, hlen, hnd, hin, e⟩ => ?_
  · simp
    refine ⟨_, rg1_r (by constructor <;> omega), ?_⟩
    rw [Int.toNat_natCast]
    refine (lc_names (ρ := [stD (a + 1) cs l s, .lst (pl.map D.str), .lst (scope.map D.str), .lst (known.map D.str), .int F, .int c, .int m, .non, .non, .non, .non, .non, .non]) (i := 12) (fun k z => z = pl.getD ((c / 5 + (k : Int)) % (pl.length : Int)).toNat "") _ (by simp [up]; omega) (by simp) (fun k d ρ' hd ⟨x, hx⟩ => ?_)).mono fun acc ρ2 ⟨⟨ns, ha, hln, hin⟩, x, hx⟩ => ?_
    · subst hx
      have kl := (List.getElem?_eq_some_iff.mp hd).1
      have kl' : k < m := by simpa [up] using kl
      rw [up_at kl'] at hd
      cases hd
      have e := of_mod (l := pl) (by omega) (c / 5 + (k : Int))
      simp at e
      refine ⟨_, ?_, rfl⟩
      simp [div_r c 5 (by decide) (by decide), mod_r _ (pl.length : Int) (by omega), e]
    · subst ha hx
      have hln : ns.length = m := by rw [hln]; simp [up]
      have lt : ∀ k : Nat, ((c / 5 + (k : Int)) % (pl.length : Int)).toNat < pl.length := fun k => by
        have h1 := Int.emod_nonneg (c / 5 + (k : Int)) (show (pl.length : Int) ≠ 0 by omega)
        have h2 := Int.emod_lt_of_pos (c / 5 + (k : Int)) (show (0 : Int) < pl.length by omega)
        omega
      refine ⟨ns, hln, ?_, fun z hz => ?_, x, rfl⟩
      · refine List.pairwise_iff_getElem.mpr fun i j hi hj hij he => ?_
        have q1 := hin i ns[i] (List.getElem?_eq_getElem hi)
        have q2 := hin j ns[j] (List.getElem?_eq_getElem hj)
        rw [q1, q2] at he
        have q := getD_inj I.nd (lt i) (lt j) he
        have h1 := Int.emod_nonneg (c / 5 + (i : Int)) (show (pl.length : Int) ≠ 0 by omega)
        have h2 := Int.emod_nonneg (c / 5 + (j : Int)) (show (pl.length : Int) ≠ 0 by omega)
        have q3 : (c / 5 + (i : Int)) % (pl.length : Int) = (c / 5 + (j : Int)) % (pl.length : Int) := by omega
        have q5 : ((c / 5 + (j : Int)) - (c / 5 + (i : Int))) % (pl.length : Int) = 0 := by rw [Int.sub_emod, q3, Int.sub_self, Int.zero_emod]
        have q6 : ((c / 5 + (j : Int)) - (c / 5 + (i : Int))) = ((j - i : Nat) : Int) := by omega
        rw [q6, Int.emod_eq_of_lt (by omega) (by omega)] at q5
        omega
      · obtain ⟨i, hi⟩ := List.getElem?_of_mem hz
        rw [hin i z hi]
        exact I.pin _ (getD_mem (lt i))
  subst e
  refine seq_sat (fun ρ => ∃ (gs : List Str) (x y : D), (∀ z ∈ gs, z ∈ ns) ∧ gs.length ≤ 5 ∧ ρ = [stD (a + 1) cs l s, .lst (pl.map D.str), .lst (scope.map D.str), .lst (known.map D.str), .int F, .int c, .int m, .lst (ns.map D.str), .lst (gs.map D.str), .non, .non, x, y]) ?_ fun ρ ⟨gs, x, y, hgs, gl, e⟩ => ?_
  · simp
    refine lc_sat _ _ _ (fun i acc ρ => (∃ gs : List Str, acc = gs.map D.str ∧ (∀ z ∈ gs, z ∈ ns) ∧ gs.length ≤ i) ∧ ∃ x y, ρ = [stD (a + 1) cs l s, .lst (pl.map D.str), .lst (scope.map D.str), .lst (known.map D.str), .int F, .int c, .int m, .lst (ns.map D.str), .non, .non, .non, x, y]) ⟨⟨[], rfl, nofun, Nat.le_refl _⟩, _, _, rfl⟩ (fun i d acc ρ hd ⟨⟨gs, ha, hg, hl⟩, x, y, e⟩ => ?_) (fun acc ρ ⟨⟨gs, ha, hg, hl⟩, x, y, e⟩ => ?_)
    · obtain ⟨z, hz, rfl⟩ := enumS_at hd
      subst e ha
      have il := (List.getElem?_eq_some_iff.mp hz).1
      refine ⟨_, rfl, ?_⟩
      have sh := dShr_r (i := c) (j := 5 + (i : Int)) (by omega)
      by_cases cb : Builtin.bitAnd (c / 2 ^ (5 + (i : Int)).toNat) 1 = 1
      · simp [sh, cb]
        refine ⟨size_lt (by omega), ⟨gs ++ [z], by simp, fun u hu => ?_, by rw [List.length_append]; simp; omega⟩⟩
        rcases List.mem_append.mp hu with q | q
        · exact hg u q
        · rw [List.mem_singleton.mp q]; exact List.mem_of_getElem? hz
      · simp [sh, cb]
        exact ⟨gs, rfl, hg, by omega⟩
    · subst e ha
      have el : ∀ (l : List D) (k : Nat), (enumL k l).length = l.length := fun l => by
        induction l with
        | nil => exact fun _ => rfl
        | cons x r ih => exact fun k => by simp [enumL]; exact ih _
      rw [el, List.length_map] at hl
      refine ⟨gs, hg, by omega, x, y, rfl⟩
  subst e
  have cat := fCat_strs scope ns (by have := I.scl; omega)
  have cat2 := fCat_strs known gs (by have := I.knl; omega)
  refine seq_sat (fun ρ => ρ = [stD (a + 1) cs l s, .lst (pl.map D.str), .lst (scope.map D.str), .lst (known.map D.str), .int F, .int c, .int m, .lst (ns.map D.str), .lst (gs.map D.str), .lst ((scope ++ ns).map D.str), .non, x, y]) ?_ fun ρ e => ?_
  · simp [cat, -List.map_append]
  subst e
  refine seq_sat (fun ρ => ρ = [stD (a + 1) cs l s, .lst (pl.map D.str), .lst (scope.map D.str), .lst (known.map D.str), .int F, .int c, .int m, .lst (ns.map D.str), .lst (gs.map D.str), .lst ((scope ++ ns).map D.str), .lst [], x, y]) ?_ fun ρ e => ?_
  · simp
  subst e
  have gp : ∀ z ∈ gs, z ∈ pool := fun z hz => hin z (hgs z hz)
  have I2 : In4 pool pl (scope ++ ns) (known ++ gs) (3 * f + 1) := (I.more hin (by omega)).know gp (by omega)
  have I3 : In4 pool pl (scope ++ ns) (known ++ gs) (3 * f) := I2.less (Nat.le_succ (3 * f))
  refine seq_sat (LetI pool pl cs s [.lst (pl.map D.str), .lst (scope.map D.str), .lst (known.map D.str), .int F, .int c, .int m, .lst (ns.map D.str), .lst (gs.map D.str), .lst ((scope ++ ns).map D.str)] f ns ns.length) ?_ fun ρ ⟨a1, l1, ps, y, z, e, hps, hpp⟩ => ?_
  · rw [sFor_r]
    simp only [eItL_r, eVar_r, bind_ok, List.getD_cons_succ, List.getD_cons_zero, dLst_l]
    refine forL_sat _ _ (LetI pool pl cs s [.lst (pl.map D.str), .lst (scope.map D.str), .lst (known.map D.str), .int F, .int c, .int m, .lst (ns.map D.str), .lst (gs.map D.str), .lst ((scope ++ ns).map D.str)] f ns) ⟨_, _, [], _, _, rfl, by simp, nofun⟩ (fun i d ρ hd ⟨a1, l1, ps, y, z, e, hps, hpp⟩ => ?_) (fun ρ h => by rw [List.length_map] at h; exact ⟨rfl, h⟩)
    obtain ⟨u, hu, rfl⟩ := map_at hd
    subst e
    refine ⟨_, rfl, ?_⟩
    have hg := dIn_strL false u gs
    have il := (List.getElem?_eq_some_iff.mp hu).1
    have pl5 : ps.length ≤ 5 := by
      have := congrArg List.length hps
      rw [List.length_map, List.length_take] at this
      omega
    have up : u ∈ pool := hin u (List.mem_of_getElem? hu)
    have fin : ∀ (t : Tm) (a' : Nat) (l' : Int) (z : D), t.gd pool → (t.dp ≤ 7 * f + 4 ∧ t.m2 ≤ 3 * f) → LetI pool pl cs s [.lst (pl.map D.str), .lst (scope.map D.str), .lst (known.map D.str), .int F, .int c, .int m, .lst (ns.map D.str), .lst (gs.map D.str), .lst ((scope ++ ns).map D.str)] f ns (i + 1) [stD a' cs l' s, .lst (pl.map D.str), .lst (scope.map D.str), .lst (known.map D.str), .int F, .int c, .int m, .lst (ns.map D.str), .lst (gs.map D.str), .lst ((scope ++ ns).map D.str), .lst ((ps.map fun p => D.tup [.str p.1, p.2.d]) ++ [.tup [.str u, t.d]]), .str u, z] := fun t a' l' z tg td =>
      ⟨a', l', ps ++ [(u, t)], _, _, by rw [show ((ps ++ [(u, t)]).map fun p => D.tup [.str p.1, p.2.d]) = (ps.map fun p => D.tup [.str p.1, p.2.d]) ++ [.tup [.str u, t.d]] from List.map_append ..]; rfl, by rw [List.map_append, hps, take_snoc hu]; rfl, fun p hp => by
        rcases List.mem_append.mp hp with q | q
        · exact hpp p q
        · rw [List.mem_singleton.mp q]; exact ⟨up, tg, td⟩⟩
    have app : ∀ t : D, fApp (ps.map fun p => D.tup [.str p.1, p.2.d]) [.tup [.str u, t]] = some (.non, (ps.map fun p => D.tup [.str p.1, p.2.d]) ++ [.tup [.str u, t]]) := fun t => fApp_r (size_lt (by rw [List.length_map]; omega))
    by_cases cu : u ∈ gs
    · simp [hg, cu, cat2, -List.map_append]
      refine (funs_s f ih F (j + 1) a1 cs l1 s pl (scope ++ ns) (known ++ gs) hF (by omega) hc I2).mono fun d o ⟨t, a', l', x', y', z', w, e1, tg, td, e2⟩ => ?_
      subst e1 e2
      simp [app, -List.map_append]
      exact fin t a' l' z tg td
    · simp [hg, cu, cat2, -List.map_append]
      refine (ih F (j + 1) a1 cs l1 s pl (scope ++ ns) (known ++ gs) hF (by omega) hc I3).mono fun d o ⟨t, a', l', x', y', z', w, e1, tg, td, e2⟩ => ?_
      subst e1 e2
      simp [app, -List.map_append]
      exact fin t a' l' z tg (by omega)
  subst e
  simp [cat2, -List.map_append]
  refine (ih F (j + 1) a1 cs l1 s pl (scope ++ ns) (known ++ gs) hF (by omega) hc I3).mono fun d o ⟨t, a', l', x', y', z', w, e1, tg, td, e2⟩ => ?_
  subst e1 e2
  simp
  rw [List.take_length] at hps
  exact ⟨.lets (Bs.ofL ps) t, a', l', _, _, _, _, by rw [Tm.d, ofL_d], ⟨by rw [ofL_names, hps]; exact hnd, ofL_gd fun p hp => ⟨(hpp p hp).1, (hpp p hp).2.1⟩, tg⟩, by
    have h1 := ofL_dp (k := 7 * f + 4) (l := ps) fun p hp => (hpp p hp).2.2.1
    have h2 := ofL_m2 (k := 3 * f) (l := ps) fun p hp => (hpp p hp).2.2.2
    have h3 : Nat.log2 ((Bs.ofL ps).names.length + 1) ≤ 2 := log_5 (by rw [ofL_names, hps]; omega)
    show max (Bs.ofL ps).dp t.dp + 1 ≤ _ ∧ max (Bs.ofL ps).m2 t.m2 + (Nat.log2 ((Bs.ofL ps).names.length + 1) + 1) ≤ _
    omega, rfl⟩
end
end Law
namespace Law
open PySem L2 VL
section
variable {pool : List Str}
theorem call_s (f : Nat) (ih : AnyOk pool f) (F : Int) (n a : Nat) (cs : List Int) (l s : Int) (pl scope known : List Str) (hF : F ≤ f) (hn : 3 * f + 6 ≤ n) (hc : cs.length ≤ 10000) (I : In4 pool pl scope known (3 * f + 1)) :
    (Fn n ._law_call [stD a cs l s, .lst (pl.map D.str), .lst (scope.map D.str), .lst (known.map D.str), .int F]).sat (Gen pool (7 * f + 7) (3 * f + 3) cs s) := by
  obtain ⟨k, rfl⟩ : ∃ k, n = k + 1 := ⟨n - 1, by omega⟩
  rw [show Fn (k + 1) ._law_call = mkF false 9 5 (b__law_call (Fn k)) from rfl]
  refine mkF_sat ?_
  unfold b__law_call
  obtain ⟨j, rfl⟩ : ∃ j, k = j + 1 := ⟨k - 1, by omega⟩
  have h5 := I.five
  have I0 := I.less (Nat.le_succ (3 * f))
  have at2 : ∀ p q r t : D, atI [p, q, r, t] 2 = some r := fun _ _ _ _ => rfl
  refine seq_sat (fun ρ => ∃ c : Int, ρ = [stD (a + 1) cs l s, .lst (pl.map D.str), .lst (scope.map D.str), .lst (known.map D.str), .int F, .int c, .non, .non, .non]) ?_ fun ρ ⟨c, e⟩ => ?_
  · simp
    refine (next_s j a cs l s hc).mono fun d o ⟨c, e1, _, e2⟩ => ?_
    subst e1 e2
    simp
  subst e
  refine seq_sat (fun ρ => ∃ (t1 : Tm) (a' : Nat) (l' : Int), t1.gd pool ∧ (t1.dp ≤ 7 * f + 4 ∧ t1.m2 ≤ 3 * f) ∧ ρ = [stD a' cs l' s, .lst (pl.map D.str), .lst (scope.map D.str), .lst (known.map D.str), .int F, .int c, t1.d, .non, .non]) ?_ fun ρ ⟨t1, a1, l1, g1, d1, e⟩ => ?_
  · by_cases c0 : c % 4 = 0
    · simp [mod_r _ 4 (by decide), c0]
      refine (ih F (j + 1) (a + 1) cs l s pl scope known hF (by omega) hc I0).mono fun d o ⟨t, a', l', x', y, z, w, e1, tg, td, e2⟩ => ?_
      subst e1 e2
      simp
      exact ⟨t, tg, by omega, ⟨a', l', rfl⟩, rfl⟩
    · by_cases c1 : c % 4 = 1 ∨ known = []
      · have fn := (funs_s f ih (F - 1) (j + 1) (a + 1) cs l s pl scope known (by omega) (by omega) hc I)
        have go : ∀ d o, Gen pool (7 * f + 4) (3 * f) cs s d o → ∃ t1 : Tm, t1.gd pool ∧ (t1.dp ≤ 7 * f + 4 ∧ t1.m2 ≤ 3 * f) ∧ (∃ a' l', o.headD .non = stD a' cs l' s) ∧ d = t1.d := fun d o ⟨t, a', l', x', y, z, w, e1, tg, td, e2⟩ => by
          subst e1 e2
          exact ⟨t, tg, by omega, ⟨a', l', rfl⟩, rfl⟩
        by_cases c2 : c % 4 = 1
        · simp [mod_r _ 4 (by decide), c2]
          refine fn.mono fun d o ⟨t, a', l', x', y, z, w, e1, tg, td, e2⟩ => ?_
          subst e1 e2
          simp
          exact ⟨t, tg, by omega, ⟨a', l', rfl⟩, rfl⟩
        · have hk := c1.resolve_left c2
          subst hk
          simp [mod_r _ 4 (by decide), c0, c2]
          refine fn.mono fun d o ⟨t, a', l', x', y, z, w, e1, tg, td, e2⟩ => ?_
          subst e1 e2
          simp
          exact ⟨t, tg, by omega, ⟨a', l', rfl⟩, rfl⟩
      · rw [not_or] at c1
        obtain ⟨z, e, m⟩ := of_in c1.2 (c / 4)
        have kl : 0 < known.length := List.length_pos_iff.mpr c1.2
        simp at e
        simp [mod_r _ 4 (by decide), c0, c1.1, c1.2, div_r c 4 (by decide) (by decide), mod_r _ (known.length : Int) (by omega), e]
        exact ⟨.name z, I.knin z m, by show 1 ≤ _ ∧ 0 ≤ _; omega, ⟨a + 1, l, rfl⟩, rfl⟩
  subst e
  obtain ⟨m, m1, m3, em⟩ := atMany3 (c / 60)
  refine seq_sat (fun ρ => ρ = [stD a1 cs l1 s, .lst (pl.map D.str), .lst (scope.map D.str), .lst (known.map D.str), .int F, .int c, t1.d, .int m, .non]) ?_ fun ρ e => ?_
  · simp at em
    simp [mod_r _ 4 (by decide), div_r c 60 (by decide) (by decide), em]
  subst e
  refine seq_sat (fun ρ => ∃ l : Int, ρ = [stD a1 cs l s, .lst (pl.map D.str), .lst (scope.map D.str), .lst (known.map D.str), .int F, .int c, t1.d, .int m, .non]) ?_ fun ρ ⟨l, e⟩ => ?_
  · simp [stD, at2]
  subst e
  simp
  refine ⟨_, rg1_r (small_63 (by omega)), ?_⟩
  rw [Int.toNat_natCast]
  refine forUp_sat (fun i ρ => ∃ (u : Tm) (a' : Nat) (l' : Int) (y : D), u.gd pool ∧ (u.dp ≤ 7 * f + 4 + i ∧ u.m2 ≤ 3 * f + i) ∧ ρ = [stD a' cs l' s, .lst (pl.map D.str), .lst (scope.map D.str), .lst (known.map D.str), .int F, .int c, u.d, .int m, y]) ⟨t1, a1, l, _, g1, d1, rfl⟩ (fun i ρ hi ⟨u, a', l', y, ug, ud, e⟩ => ?_) (fun ρ ⟨u, a', l', y, ug, ud, e⟩ => ?_)
  · subst e
    simp
    refine (ih F (j + 1) a' cs l' s pl scope known hF (by omega) hc I0).mono fun d o ⟨t, a', l', x', y, z, w, e1, tg, td, e2⟩ => ?_
    subst e1 e2
    simp
    exact ⟨.app u t, ⟨ug, tg⟩, by show max u.dp t.dp + 1 ≤ _ ∧ max u.m2 t.m2 + 1 ≤ _; omega, ⟨a', l', rfl⟩, rfl⟩
  · subst e
    simp
    exact ⟨u, a', l', _, _, _, _, rfl, ug, by omega, rfl⟩
theorem any_s : ∀ f : Nat, AnyOk pool f
  | f, F, n, a, cs, l, s, pl, scope, known, hF, hn, hc, I => by
    obtain ⟨j, rfl⟩ : ∃ j, n = j + 2 := ⟨n - 2, by omega⟩
    rw [show Fn (j + 2) ._law_any = mkF false 9 5 (b__law_any (Fn (j + 1))) from rfl]
    refine mkF_sat ?_
    unfold b__law_any
    have at2 : ∀ p q r t : D, atI [p, q, r, t] 2 = some r := fun _ _ _ _ => rfl
    refine seq_sat (fun ρ => ∃ c : Int, ρ = [stD (a + 1) cs l s, .lst (pl.map D.str), .lst (scope.map D.str), .lst (known.map D.str), .int F, .int c, .non, .non, .non]) ?_ fun ρ ⟨c, e⟩ => ?_
    · simp
      refine (next_s j a cs l s hc).mono fun d o ⟨c, e1, _, e2⟩ => ?_
      subst e1 e2
      simp
    subst e
    refine seq_sat (fun ρ => ρ = [stD (a + 1) cs (l - 1) s, .lst (pl.map D.str), .lst (scope.map D.str), .lst (known.map D.str), .int F, .int c, .non, .non, .non]) ?_ fun ρ e => ?_
    · simp [stD, at2]
    subst e
    refine seq_sat (fun ρ => ρ = [stD (a + 1) cs (l - 1) s, .lst (pl.map D.str), .lst (scope.map D.str), .lst (known.map D.str), .int F, .int c, .int (c % 14), .non, .non]) ?_ fun ρ e => ?_
    · simp [mod_r _ 14 (by decide)]
    subst e
    have w0 : 0 ≤ c % 14 := by omega
    have w14 : c % 14 < 14 := by omega
    generalize c % 14 = w at w0 w14
    refine seq_sat (fun ρ => ∃ b : Int, ρ = [stD (a + 1) cs (l - 1) s, .lst (pl.map D.str), .lst (scope.map D.str), .lst (known.map D.str), .int F, .int b, .int w, .non, .non]) ?_ fun ρ ⟨b, e⟩ => ?_
    · simp [div_r _ 14 (by decide) (by decide)]
    subst e
    have lf := leaf_s j b I
    have toG : ∀ d, (∃ t : Tm, d = t.d ∧ t.gd pool ∧ (t.dp ≤ 1 ∧ t.m2 = 0)) → Gen pool (7 * f + 1) (3 * f) cs s d [stD (a + 1) cs (l - 1) s, .lst (pl.map D.str), .lst (scope.map D.str), .lst (known.map D.str), .int F] := fun d ⟨t, e, tg, td⟩ => ⟨t, a + 1, l - 1, _, _, _, _, e, tg, by omega, rfl⟩
    by_cases leaf : w < 3 ∨ F < 1 ∨ l - 1 < 0
    · by_cases c1 : w < 3
      · simp [c1]
        exact lf.mono fun d o h => toG d h
      · by_cases c2 : F < 1
        · simp [c1, c2]
          exact lf.mono fun d o h => toG d h
        · have c3 : l - 1 < 0 := (leaf.resolve_left c1).resolve_left c2
          simp [c1, c2, stD, at2, c3]
          exact lf.mono fun d o h => toG d h
    · rw [not_or, not_or] at leaf
      obtain ⟨c1, c2, c3⟩ := leaf
      obtain ⟨g, rfl⟩ : ∃ g, f = g + 1 := ⟨f - 1, by omega⟩
      have ih := any_s g
      have hF' : F - 1 ≤ (g : Int) := by omega
      have I3 : In4 pool pl scope known (3 * g + 3) := I
      have I1 := I3.less (g := 3 * g + 1) (by omega)
      have I0 := I1.less (Nat.le_succ (3 * g))
      refine seq_sat (fun ρ => ρ = [stD (a + 1) cs (l - 1) s, .lst (pl.map D.str), .lst (scope.map D.str), .lst (known.map D.str), .int F, .int b, .int w, .non, .non]) ?_ fun ρ e => ?_
      · simp [c1, c2, stD, at2, c3]
      subst e
      have fit : ∀ {p q : Nat} {d : D} {o : List D}, (p ≤ 7 * (g + 1) + 1 ∧ q ≤ 3 * (g + 1)) → Gen pool p q cs s d o → ∃ (a' : Nat) (l' : Int) (x y z w : D), o = [stD a' cs l' s, x, y, z, w] ∧ ∃ t : Tm, d = t.d ∧ t.gd pool ∧ (t.dp ≤ 7 * (g + 1) + 1 ∧ t.m2 ≤ 3 * (g + 1)) := fun hp ⟨t, a', l', x', y, z, w, e1, tg, td, e2⟩ => ⟨a', l', x', y, z, w, e2, t, e1, tg, by omega⟩
      by_cases c6 : w < 6
      · simp [c6]
        refine (choose_s g ih (F - 1) (j + 1) (a + 1) cs (l - 1) s pl scope known hF' (by omega) hc I1).mono fun d o h => ?_
        obtain ⟨a', l', x', y, z, w, rfl, t, rfl, tg, td⟩ := fit (by omega) h
        simp
        exact ⟨t, a', l', _, _, _, _, rfl, tg, td, rfl⟩
      refine seq_sat (fun ρ => ρ = [stD (a + 1) cs (l - 1) s, .lst (pl.map D.str), .lst (scope.map D.str), .lst (known.map D.str), .int F, .int b, .int w, .non, .non]) ?_ fun ρ e => ?_
      · simp [c6]
      subst e
      by_cases e6 : w = 6
      · simp [e6]
        refine (let_s g ih (F - 1) (j + 1) (a + 1) cs (l - 1) s pl scope known hF' (by omega) hc I3).mono fun d o h => ?_
        obtain ⟨a', l', x', y, z, w, rfl, t, rfl, tg, td⟩ := fit (by omega) h
        simp
        exact ⟨t, a', l', _, _, _, _, rfl, tg, td, rfl⟩
      refine seq_sat (fun ρ => ρ = [stD (a + 1) cs (l - 1) s, .lst (pl.map D.str), .lst (scope.map D.str), .lst (known.map D.str), .int F, .int b, .int w, .non, .non]) ?_ fun ρ e => ?_
      · simp [e6]
      subst e
      by_cases c11 : w < 11
      · simp [c11]
        refine (call_s g ih (F - 1) (j + 1) (a + 1) cs (l - 1) s pl scope known hF' (by omega) hc I1).mono fun d o h => ?_
        obtain ⟨a', l', x', y, z, w, rfl, t, rfl, tg, td⟩ := fit (by omega) h
        simp
        exact ⟨t, a', l', _, _, _, _, rfl, tg, td, rfl⟩
      refine seq_sat (fun ρ => ρ = [stD (a + 1) cs (l - 1) s, .lst (pl.map D.str), .lst (scope.map D.str), .lst (known.map D.str), .int F, .int b, .int w, .non, .non]) ?_ fun ρ e => ?_
      · simp [c11]
      subst e
      by_cases cf : w = 11 ∧ b % 2 = 0
      · obtain ⟨rfl, b2⟩ := cf
        simp [mod_r _ 2 (by decide), b2]
        refine (funs_s g ih (F - 1) (j + 1) (a + 1) cs (l - 1) s pl scope known hF' (by omega) hc I1).mono fun d o h => ?_
        obtain ⟨a', l', x', y, z, w, rfl, t, rfl, tg, td⟩ := fit (by omega) h
        simp
        exact ⟨t, a', l', _, _, _, _, rfl, tg, td, rfl⟩
      refine seq_sat (fun ρ => ρ = [stD (a + 1) cs (l - 1) s, .lst (pl.map D.str), .lst (scope.map D.str), .lst (known.map D.str), .int F, .int b, .int w, .non, .non]) ?_ fun ρ e => ?_
      · by_cases e11 : w = 11
        · have b2 : ¬ b % 2 = 0 := fun q => cf ⟨e11, q⟩
          simp [e11, mod_r _ 2 (by decide), b2]
        · simp [e11]
      subst e
      refine seq_sat (fun ρ => ∃ (t1 : Tm) (a' : Nat) (l' : Int), t1.gd pool ∧ (t1.dp ≤ 7 * g + 1 ∧ t1.m2 ≤ 3 * g) ∧ ρ = [stD a' cs l' s, .lst (pl.map D.str), .lst (scope.map D.str), .lst (known.map D.str), .int F, .int b, .int w, t1.d, .non]) ?_ fun ρ ⟨t1, a1, l1, g1, d1, e⟩ => ?_
      · simp
        refine (ih (F - 1) (j + 1) (a + 1) cs (l - 1) s pl scope known hF' (by omega) hc I0).mono fun d o ⟨t, a', l', x', y, z, w, e1, tg, td, e2⟩ => ?_
        subst e1 e2
        simp
        exact ⟨t, tg, by omega, ⟨a', l', rfl⟩, rfl⟩
      subst e
      refine seq_sat (fun ρ => ∃ (t2 : Tm) (a' : Nat) (l' : Int), t2.gd pool ∧ (t2.dp ≤ 7 * g + 1 ∧ t2.m2 ≤ 3 * g) ∧ ρ = [stD a' cs l' s, .lst (pl.map D.str), .lst (scope.map D.str), .lst (known.map D.str), .int F, .int b, .int w, t1.d, t2.d]) ?_ fun ρ ⟨t2, a2, l2, g2, d2, e⟩ => ?_
      · simp
        refine (ih (F - 1) (j + 1) a1 cs l1 s pl scope known hF' (by omega) hc I0).mono fun d o ⟨t, a', l', x', y, z, w, e1, tg, td, e2⟩ => ?_
        subst e1 e2
        simp
        exact ⟨t, tg, by omega, ⟨a', l', rfl⟩, rfl⟩
      subst e
      have dd : max t1.dp t2.dp + 1 ≤ 7 * (g + 1) + 1 ∧ max t1.m2 t2.m2 + 1 ≤ 3 * (g + 1) := by omega
      by_cases e11 : w = 11
      · subst e11
        have b2 : b / 2 % 2 = 0 ∨ b / 2 % 2 = 1 := by omega
        simp [mod_r _ 2 (by decide), div_r _ 2 (by decide) (by decide)]
        rcases b2 with q | q <;> rw [q]
        · exact ⟨_, atI_0 _ _, .shape "Cons" t1 t2, a2, l2, _, _, _, _, rfl, ⟨g1, g2⟩, dd, rfl⟩
        · exact ⟨_, atI_1 _ _ _, .shape "Pair" t1 t2, a2, l2, _, _, _, _, rfl, ⟨g1, g2⟩, dd, rfl⟩
      · by_cases e12 : w = 12
        · subst e12
          simp
          exact ⟨.first t1 t2, a2, l2, _, _, _, _, rfl, ⟨g1, g2⟩, dd, rfl⟩
        · have sg : ∀ x : Int, ∃ q : Str, dIx (.str "+-*<=") (.int (x % 5)) = some (.str q) := fun x => ⟨_, dIx_sign (z := "+-*<=") (by decide) (by omega) (by rw [show ("+-*<=" : Str).cps.size = 5 by decide]; omega)⟩
          obtain ⟨q, eq⟩ := sg b
          simp [e11, e12, mod_r _ 5 (by decide), eq]
          exact ⟨.does q t1 t2, a2, l2, _, _, _, _, rfl, ⟨g1, g2⟩, dd, rfl⟩
end
end Law
namespace Law
open PySem L2 VL
theorem row_e (n : Nat) (t : Tm) (h : t.dp ≤ 1000) : ∃ o, Fn (n + 1) .row_of [t.d] = .ok (.tup [.lst (t.fs.1.map D.str), t.fs.2.d]) o := by
  have key : (Fn (n + 1) .row_of [t.d]).sat fun d _ => d = .tup [.lst (t.fs.1.map D.str), t.fs.2.d] := by
    rw [show Fn (n + 1) .row_of = mkF false 2 1 (b_row_of (Fn n)) from rfl]
    refine mkF_sat ?_
    unfold b_row_of
    simp
    refine while_sat (fun k ρ => ∃ (u : Tm) (acc : List Str), ρ = [u.d, .lst (acc.map D.str)] ∧ acc ++ u.fs.1 = t.fs.1 ∧ u.fs.2 = t.fs.2 ∧ u.dp = k ∧ acc.length + u.dp ≤ 1000) (fun k ρ ⟨u, acc, e, h1, h2, h3, h4⟩ => ?_) 100000 t.dp _ (by omega) ⟨t, [], rfl, rfl, rfl, rfl, by simpa using h⟩
    subst e
    rcases u.is_fn with ⟨y, b, rfl⟩ | ⟨nt, _, _⟩
    · have ap := fApp_strs acc y (by omega)
      simp [Tm.d, tFun, ap, -List.map_append]
      refine ⟨b.dp, ?_, b, acc ++ [y], ⟨rfl, rfl⟩, ?_, h2, rfl, ?_⟩
      · rw [← h3]; exact Nat.lt_succ_self _
      · rw [← h1, List.append_assoc]; rfl
      · have : (Tm.fn y b).dp = b.dp + 1 := rfl
        rw [List.length_append, List.length_singleton]
        omega
    · obtain ⟨r, er⟩ := u.d_tag
      have eu : u.fs = ([], u) := by cases u <;> first | rfl | (exact absurd rfl nt)
      rw [eu] at h1 h2
      rw [List.append_nil] at h1
      rw [er]
      simp [nt]
      rw [← h1, ← h2, er]
      exact ⟨rfl, rfl⟩
  obtain ⟨d, o, e, rfl⟩ := key.ex
  exact ⟨o, e⟩
theorem bs_small {pool : List Str} (hp : pool.length ≤ 100) {bs : Bs} {a : Tm} (g : (Tm.lets bs a).gd pool) : bs.l.length ≤ 100 := by
  rw [bs_len]
  exact Nat.le_trans (nodup_le g.1 (names_in g.2.1)) hp
theorem parts_e {pool : List Str} (hp : pool.length ≤ 100) (n : Nat) (t : Tm) (g : t.gd pool) : ∃ o, Fn (n + 1) .parts [t.d] = .ok (.lst (t.pts.map Tm.d)) o := by
  have key : (Fn (n + 1) .parts [t.d]).sat fun d _ => d = .lst (t.pts.map Tm.d) := by
    rw [show Fn (n + 1) .parts = mkF false 5 1 (b_parts (Fn n)) from rfl]
    refine mkF_sat ?_
    unfold b_parts
    cases t with
    | num i => simp [Tm.d, tNum, Tm.pts]
    | name x => simp [Tm.d, tName, Tm.pts]
    | stop x => simp [Tm.d, tStop, Tm.pts]
    | bare s => simp [Tm.d, tShape, Tm.pts]
    | does o a b => simp [Tm.d, tDoes, Tm.pts]
    | fn x a => simp [Tm.d, tFun, Tm.pts]
    | app a b => simp [Tm.d, tApp, Tm.pts]
    | first a b => simp [Tm.d, tFirst, Tm.pts]
    | shape s a b => simp [Tm.d, tShape, Tm.pts]
    | rows _ _ => exact g.elim
    | lets bs a =>
      have bl := bs_small hp g
      simp [Tm.d, Tm.pts]
      rw [Bs.d_l]
      refine (lc_map (ρ := [.tup [.str "let", .tup (bs.l.map fun b => .tup [.str b.1, b.2.d]), a.d], .str "let", .non, .non, .non]) (i := 2) bs.l (fun b => .tup [.str b.1, b.2.d]) (fun b => b.2.d) (by omega) (by simp) (fun b hb ρ' ⟨x, hx⟩ => ?_)).mono fun acc ρ2 ⟨ha, x, hx⟩ => ?_
      · subst hx
        simp
      · subst ha hx
        have c := fCat_r (xs := bs.l.map fun b => b.2.d) (ys := [a.d]) (Nat.le_of_lt (size_lt (by rw [List.length_map, List.length_singleton]; omega)))
        simp [c]
    | choose a cs =>
      have cl := g.2.2.1
      simp [Tm.d, Tm.pts]
      rw [Cs.d_l]
      refine (lc_map (ρ := [.tup [.str "choose", a.d, .tup (cs.l.map fun c => .tup [.str c.1, .tup (c.2.1.map D.str), c.2.2.d])], .str "choose", .non, .non, .non]) (i := 3) cs.l (fun c => .tup [.str c.1, .tup (c.2.1.map D.str), c.2.2.d]) (fun c => c.2.2.d) (by omega) (by simp) (fun b hb ρ' ⟨x, hx⟩ => ?_)).mono fun acc ρ2 ⟨ha, x, hx⟩ => ?_
      · subst hx
        simp
      · subst ha hx
        have c := fCat_r (xs := [a.d]) (ys := cs.l.map fun b => b.2.2.d) (Nat.le_of_lt (size_lt (by rw [List.length_map, List.length_singleton]; omega)))
        simp [c]
  obtain ⟨d, o, e, rfl⟩ := key.ex
  exact ⟨o, e⟩
theorem dIn_cf (z : Str) : dIn false (.str z) (.tup [.str "call", .str "first"]) = some (.bl (decide (z ∈ (["call", "first"] : List Str)))) := dIn_strT false z ["call", "first"]
theorem lparts_e {pool : List Str} (hp : pool.length ≤ 100) (n : Nat) (t : Tm) (g : t.gd pool) : ∃ o, Fn (n + 1) ._law_parts [t.d] = .ok (.lst (t.pts.map Tm.d)) o := by
  have key : (Fn (n + 1) ._law_parts [t.d]).sat fun d _ => d = .lst (t.pts.map Tm.d) := by
    rw [show Fn (n + 1) ._law_parts = mkF false 3 1 (b__law_parts (Fn n)) from rfl]
    refine mkF_sat ?_
    unfold b__law_parts
    cases t with
    | num i => simp [Tm.d, tNum, Tm.pts, dIn_cf]
    | name x => simp [Tm.d, tName, Tm.pts, dIn_cf]
    | stop x => simp [Tm.d, tStop, Tm.pts, dIn_cf]
    | bare s => simp [Tm.d, tShape, Tm.pts, dIn_cf]
    | does o a b => simp [Tm.d, tDoes, Tm.pts, dIn_cf]
    | fn x a => simp [Tm.d, tFun, Tm.pts, dIn_cf]
    | app a b => simp [Tm.d, tApp, Tm.pts, dIn_cf]
    | first a b => simp [Tm.d, tFirst, Tm.pts, dIn_cf]
    | shape s a b => simp [Tm.d, tShape, Tm.pts, dIn_cf]
    | rows _ _ => exact g.elim
    | lets bs a =>
      have bl := bs_small hp g
      simp [Tm.d, Tm.pts, dIn_cf]
      rw [Bs.d_l]
      refine (lc_map (ρ := [.tup [.str "let", .tup (bs.l.map fun b => .tup [.str b.1, b.2.d]), a.d], .non, .non]) (i := 1) bs.l (fun b => .tup [.str b.1, b.2.d]) (fun b => b.2.d) (by omega) (by simp) (fun b hb ρ' ⟨x, hx⟩ => ?_)).mono fun acc ρ2 ⟨ha, x, hx⟩ => ?_
      · subst hx
        simp
      · subst ha hx
        have c := fCat_r (xs := bs.l.map fun b => b.2.d) (ys := [a.d]) (Nat.le_of_lt (size_lt (by rw [List.length_map, List.length_singleton]; omega)))
        simp [c]
    | choose a cs =>
      have cl := g.2.2.1
      simp [Tm.d, Tm.pts, dIn_cf]
      rw [Cs.d_l]
      refine (lc_map (ρ := [.tup [.str "choose", a.d, .tup (cs.l.map fun c => .tup [.str c.1, .tup (c.2.1.map D.str), c.2.2.d])], .non, .non]) (i := 2) cs.l (fun c => .tup [.str c.1, .tup (c.2.1.map D.str), c.2.2.d]) (fun c => c.2.2.d) (by omega) (by simp) (fun b hb ρ' ⟨x, hx⟩ => ?_)).mono fun acc ρ2 ⟨ha, x, hx⟩ => ?_
      · subst hx
        simp
      · subst ha hx
        have c := fCat_r (xs := [a.d]) (ys := cs.l.map fun b => b.2.2.d) (Nat.le_of_lt (size_lt (by rw [List.length_map, List.length_singleton]; omega)))
        simp [c]
  obtain ⟨d, o, e, rfl⟩ := key.ex
  exact ⟨o, e⟩
structure BI (a : Tm) (cs : Cs) (i : Nat) (ρ : List D) : Prop where
  out : ∃ y z, ρ = [.tup [.str "choose", a.d, .tup cs.d], .lst (((cs.l.take i).flatMap (·.2.1)).map D.str), y, z] ∧ ((cs.l.take i).flatMap (·.2.1)).length ≤ 2 * i
theorem bound_e {pool : List Str} (hp : pool.length ≤ 100) (n : Nat) (t : Tm) (g : t.gd pool) : ∃ o, Fn (n + 1) .bound_by [t.d] = .ok (.lst (t.own.map D.str)) o := by
  have key : (Fn (n + 1) .bound_by [t.d]).sat fun d _ => d = .lst (t.own.map D.str) := by
    rw [show Fn (n + 1) .bound_by = mkF false 4 1 (b_bound_by (Fn n)) from rfl]
    refine mkF_sat ?_
    unfold b_bound_by
    cases t with
    | num i => simp [Tm.d, tNum, Tm.own]
    | name x => simp [Tm.d, tName, Tm.own]
    | stop x => simp [Tm.d, tStop, Tm.own]
    | bare s => simp [Tm.d, tShape, Tm.own]
    | does o a b => simp [Tm.d, tDoes, Tm.own]
    | fn x a => simp [Tm.d, tFun, Tm.own]
    | app a b => simp [Tm.d, tApp, Tm.own]
    | first a b => simp [Tm.d, tFirst, Tm.own]
    | shape s a b => simp [Tm.d, tShape, Tm.own]
    | rows _ _ => exact g.elim
    | lets bs a =>
      have bl := bs_small hp g
      simp [Tm.d, Tm.own]
      rw [Bs.d_l]
      refine (lc_map (ρ := [.tup [.str "let", .tup (bs.l.map fun b => .tup [.str b.1, b.2.d]), a.d], .non, .non, .non]) (i := 3) bs.l (fun b => .tup [.str b.1, b.2.d]) (fun b => .str b.1) (by omega) (by simp) (fun b hb ρ' ⟨x, hx⟩ => ?_)).mono fun acc ρ2 ⟨ha, x, hx⟩ => ?_
      · subst hx
        simp
      · subst ha hx
        have en : bs.l.map (fun b => D.str b.1) = bs.names.map D.str := by rw [Bs.names_l, List.map_map]; rfl
        simp [en]
    | choose a cs =>
      obtain ⟨c2, cw⟩ := g.2.2
      simp [Tm.d, Tm.own]
      refine forL_sat _ _ (BI a cs) ⟨_, _, rfl, by simp⟩ (fun i d ρ hd ⟨y, z, e, hl⟩ => ?_) (fun ρ ⟨y, z, e, hl⟩ => ?_)
      · obtain ⟨s, ws, t, hc, rfl⟩ := csd_at hd
        subst e
        refine ⟨_, rfl, ?_⟩
        have w2 := cw _ (List.mem_of_getElem? hc)
        have w2 : ws.length ≤ 2 := w2
        have il := (List.getElem?_eq_some_iff.mp hc).1
        have ex := fExt_t (ds := ((cs.l.take i).flatMap (·.2.1)).map D.str) (es := ws.map D.str) (Nat.le_of_lt (size_lt (by rw [List.length_map, List.length_map]; omega)))
        have tk : (cs.l.take (i + 1)).flatMap (·.2.1) = (cs.l.take i).flatMap (·.2.1) ++ ws := by
          rw [take_snoc hc, List.flatMap_append]
          simp
        simp only [sDo_r, eMeth_r, eCons_r, eBin_r, eVar_r, eC_r, bind_ok, Od_v, eNil_r, List.getD_cons_zero, List.getD_cons_succ, List.set_cons_zero, List.set_cons_succ, dIx_t, atI_1, liftO_some, ex, sat_ok, turn_nx]
        exact ⟨_, _, by rw [tk, List.map_append], by rw [tk, List.length_append]; omega⟩
      · subst e
        rw [Cs.d_l, List.length_map, List.take_length]
        simp
  obtain ⟨d, o, e, rfl⟩ := key.ex
  exact ⟨o, e⟩
end Law
namespace Law
open PySem L2 VL
def frD (p : Str × Tm) : Str × D := (p.1, p.2.d)
/-- the counts, the funs met so far -/
structure LkI (td : D) (x : List Str) (M : List (Str × D)) (ρ : List D) : Prop where
  out : ∃ (y z w : D), ρ = [td, .dic (cntL x), .dic (dOf M), y, z, w]
structure LwI (td : D) (x : List Str) (M : List (Str × D)) (ρ : List D) : Prop where
  out : ∃ (a y z w : D), ρ = [td, .dic (cntL x), .lst (M.map fun p => .tup [.str p.1, p.2]), a, y, z, w]
section
variable {pool : List Str} (hp : pool.length ≤ 100)
include hp
theorem tag_fn (t : Tm) : dIx t.d (.int 0) = some (.str (t.tag : Str)) := by
  obtain ⟨r, e⟩ := t.d_tag
  rw [e, dIx_t, atI_0]
omit hp in
theorem ownF_snoc {bs : Bs} {i : Nat} {q : Str × Tm} (h : bs.l[i]? = some q) : (bs.l.take (i + 1)).filter (fun p => p.2.isFn) = (bs.l.take i).filter (fun p => p.2.isFn) ++ if q.2.isFn = true then [q] else [] := by
  rw [take_snoc h, List.filter_append]
  congr 1
  split <;> simp [*]
omit hp in
theorem isFn_tag (t : Tm) : t.isFn = true ↔ t.tag = "fun" := by
  cases t <;> simp [Tm.isFn, Tm.tag]
theorem look_e : ∀ (p : Nat) (t : Tm) (n : Nat) (L : List Str) (M : List (Str × D)), t.dp ≤ p → t.gd pool → p + 2 ≤ n → (∀ x ∈ L, x ∈ pool) → (∀ q ∈ M, q.1 ∈ pool) →
    ∃ o, Fn n .look_through [t.d, .dic (cntL L), .dic (dOf M)] = .ok .non o ∧ o = [t.d, .dic (cntL (L ++ t.bn)), .dic (dOf (M ++ t.fl.map frD))]
  | p, t, n, L, M, td, g, hn, hL, hM => by
    obtain ⟨k, rfl⟩ : ∃ k, n = k + 2 := ⟨n - 2, by omega⟩
    have key : (Fn (k + 2) .look_through [t.d, .dic (cntL L), .dic (dOf M)]).sat fun d o => d = .non ∧ o = [t.d, .dic (cntL (L ++ t.bn)), .dic (dOf (M ++ t.fl.map frD))] := by
      rw [show Fn (k + 2) .look_through = mkF true 6 3 (b_look_through (Fn (k + 1))) from rfl]
      refine mkF_sat ?_
      unfold b_look_through
      obtain ⟨o1, e1⟩ := bound_e hp k t g
      obtain ⟨o2, e2⟩ := parts_e hp k t g
      have oin := own_in g
      refine seq_sat (LkI t.d (L ++ t.own) M) ?_ fun ρ ⟨y, z, w, e⟩ => ?_
      · simp [e1]
        refine forL_sat _ _ (fun i => LkI t.d (L ++ t.own.take i) M) ⟨_, _, _, by rw [List.take_zero, List.append_nil]⟩ (fun i d ρ hd ⟨y, z, w, e⟩ => ?_) (fun ρ h => ⟨rfl, by rw [List.length_map, List.take_length] at h; exact h⟩)
        obtain ⟨x, hx, rfl⟩ := map_at hd
        subst e
        refine ⟨_, rfl, ?_⟩
        have sz : (cntL (L ++ t.own.take i)).length < sizeLine := size_lt (Nat.le_trans (cntL_le (pool := pool) fun z hz => by
          rcases List.mem_append.mp hz with q | q
          · exact hL z q
          · exact oin z (List.mem_of_mem_take q)) (by omega))
        have tk : L ++ t.own.take (i + 1) = L ++ t.own.take i ++ [x] := by rw [take_snoc hx, List.append_assoc]
        rw [tk]
        generalize L ++ t.own.take i = LL at *
        simp [cntL_getD, sz, cnt_eq]
        exact ⟨_, _, _, rfl⟩
      subst e
      refine seq_sat (LkI t.d (L ++ t.own) (M ++ t.ownF.map frD)) ?_ fun ρ ⟨y, z, w, e⟩ => ?_
      · by_cases isl : ∃ bs a, t = .lets bs a
        · obtain ⟨bs, a, rfl⟩ := isl
          simp [Tm.d]
          refine forL_sat _ _ (fun i => LkI (.tup [.str "let", .tup bs.d, a.d]) (L ++ bs.names) (M ++ ((bs.l.take i).filter fun p => p.2.isFn).map frD)) ⟨y, z, w, by rw [List.take_zero]; simp; rfl⟩ (fun i d ρ hd ⟨y, z, w, e⟩ => ?_) (fun ρ h => ⟨rfl, by rw [show bs.d.length = bs.l.length by rw [Bs.d_l, List.length_map], List.take_length] at h; exact h⟩)
          obtain ⟨x, u, hx, rfl⟩ := bsd_at hd
          subst e
          refine ⟨_, rfl, ?_⟩
          have tg := tag_fn hp u
          have sn := ownF_snoc hx
          have sz : (dOf (M ++ ((bs.l.take i).filter fun p => p.2.isFn).map frD)).length < sizeLine := size_lt (Nat.le_trans (dOf_le (pool := pool) fun q hq => by
            rcases List.mem_append.mp hq with h | h
            · exact hM q h
            · obtain ⟨r, hr, rfl⟩ := List.mem_map.mp h
              exact (Bs.gd_mem g.2.1 (List.mem_of_mem_take (List.mem_filter.mp hr).1)).1) (by omega))
          by_cases c : u.isFn = true
          · have c' := (isFn_tag u).mp c
            have sn' : ((bs.l.take (i + 1)).filter fun p => p.2.isFn).map frD = ((bs.l.take i).filter fun p => p.2.isFn).map frD ++ [(x, u.d)] := by
              rw [sn, if_pos c, List.map_append]
              rfl
            rw [c'] at tg
            simp [tg, sz]
            exact ⟨_, _, _, by rw [sn', ← List.append_assoc, dOf_snoc]⟩
          · have c' : ¬ u.tag = "fun" := fun q => c ((isFn_tag u).mpr q)
            have sn' : ((bs.l.take (i + 1)).filter fun p => p.2.isFn).map frD = ((bs.l.take i).filter fun p => p.2.isFn).map frD := by
              rw [sn, if_neg c, List.append_nil]
            simp [tg, c']
            exact ⟨_, _, _, by rw [sn']⟩
        · have nt : ¬ t.tag = "let" := fun q => isl (by cases t <;> first | exact ⟨_, _, rfl⟩ | (simp [Tm.tag] at q))
          have tg := tag_fn hp t
          have no : t.ownF = [] := by cases t <;> first | rfl | exact (isl ⟨_, _, rfl⟩).elim
          simp [tg, nt]
          exact ⟨y, z, w, by rw [no]; simp⟩
      subst e
      simp [e2]
      refine forL_sat _ _ (fun i => LkI t.d (L ++ (t.own ++ (t.pts.take i).flatMap Tm.bn)) (M ++ (t.ownF ++ (t.pts.take i).flatMap Tm.fl).map frD)) ⟨y, z, w, by simp⟩ (fun i d ρ hd ⟨y, z, w, e⟩ => ?_) (fun ρ ⟨y, z, w, e⟩ => ?_)
      · obtain ⟨u, hu, rfl⟩ := map_at hd
        subst e
        refine ⟨_, rfl, ?_⟩
        have um := List.mem_of_getElem? hu
        have ud := Tm.pts_dp um
        obtain ⟨p', rfl⟩ : ∃ p', p = p' + 1 := ⟨p - 1, by omega⟩
        obtain ⟨o3, e3, ho⟩ := look_e p' u (k + 1) (L ++ (t.own ++ (t.pts.take i).flatMap Tm.bn)) (M ++ (t.ownF ++ (t.pts.take i).flatMap Tm.fl).map frD) (by omega) (pts_gd g u um) (by omega) (fun x hx => by
          rcases List.mem_append.mp hx with h | h
          · exact hL x h
          · rcases List.mem_append.mp h with h | h
            · exact oin x h
            · obtain ⟨v, hv, hx⟩ := List.mem_flatMap.mp h
              exact bn_in v (pts_gd g v (List.mem_of_mem_take hv)) x hx) (fun q hq => by
          rcases List.mem_append.mp hq with h | h
          · exact hM q h
          · obtain ⟨r, hr, rfl⟩ := List.mem_map.mp h
            rcases List.mem_append.mp hr with h | h
            · exact (ownF_in g r h).1
            · obtain ⟨v, hv, hx⟩ := List.mem_flatMap.mp h
              exact (fl_in v (pts_gd g v (List.mem_of_mem_take hv)) r hx).1)
        subst ho
        simp [e3, -List.map_append, -List.append_assoc]
        refine ⟨y, z, u.d, ?_⟩
        rw [take_snoc hu, List.flatMap_append, List.flatMap_append]
        simp
      · subst e
        rw [List.length_map, List.take_length, ← bn_eq, ← fl_eq]
        simp
    obtain ⟨d, o, e, rfl, rfl⟩ := key.ex
    exact ⟨_, e, rfl⟩
structure LnI (td : D) (L : List Str) (M : List (Str × D)) (ns : List Str) (ρ : List D) : Prop where
  out : ∃ (y z w : D), ρ = [td, .dic (cntL L), .lst (M.map fun p => .tup [.str p.1, p.2]), .lst (ns.map D.str), y, z, w]
theorem llook_e : ∀ (p : Nat) (t : Tm) (n : Nat) (L : List Str) (M : List (Str × D)), t.dp ≤ p → t.gd pool → p + 2 ≤ n → (∀ x ∈ L, x ∈ pool) → M.length + t.fl.length ≤ 50000 →
    ∃ o, Fn n ._law_look [t.d, .dic (cntL L), .lst (M.map fun p => .tup [.str p.1, p.2])] = .ok .non o ∧ o = [t.d, .dic (cntL (L ++ t.bn)), .lst ((M ++ t.fl.map frD).map fun p => .tup [.str p.1, p.2])]
  | p, t, n, L, M, td, g, hn, hL, hM => by
    obtain ⟨k, rfl⟩ : ∃ k, n = k + 2 := ⟨n - 2, by omega⟩
    have key : (Fn (k + 2) ._law_look [t.d, .dic (cntL L), .lst (M.map fun p => .tup [.str p.1, p.2])]).sat fun d o => d = .non ∧ o = [t.d, .dic (cntL (L ++ t.bn)), .lst ((M ++ t.fl.map frD).map fun p => .tup [.str p.1, p.2])] := by
      rw [show Fn (k + 2) ._law_look = mkF true 7 3 (b__law_look (Fn (k + 1))) from rfl]
      refine mkF_sat ?_
      unfold b__law_look
      obtain ⟨o2, e2⟩ := lparts_e hp k t g
      have oin := own_in g
      have tg := tag_fn hp t
      have fe := fl_eq t
      have fle : t.ownF.length ≤ t.fl.length := by rw [fe, List.length_append]; omega
      refine seq_sat (LnI t.d L M []) (by simp; exact ⟨_, _, _, rfl⟩) fun ρ ⟨y, z, w, e⟩ => ?_
      subst e
      refine seq_sat (LnI t.d L M (if t.isFn = true then t.own else [])) ?_ fun ρ ⟨y, z, w, e⟩ => ?_
      · cases t with
        | fn x a => simp [Tm.d, tFun, Tm.isFn, Tm.own]; exact ⟨y, z, w, rfl⟩
        | rows _ _ => exact g.elim
        | num i => simp [Tm.d, tNum, Tm.isFn]; exact ⟨y, z, w, rfl⟩
        | name x => simp [Tm.d, tName, Tm.isFn]; exact ⟨y, z, w, rfl⟩
        | stop x => simp [Tm.d, tStop, Tm.isFn]; exact ⟨y, z, w, rfl⟩
        | bare s => simp [Tm.d, tShape, Tm.isFn]; exact ⟨y, z, w, rfl⟩
        | does o a b => simp [Tm.d, tDoes, Tm.isFn]; exact ⟨y, z, w, rfl⟩
        | app a b => simp [Tm.d, tApp, Tm.isFn]; exact ⟨y, z, w, rfl⟩
        | first a b => simp [Tm.d, tFirst, Tm.isFn]; exact ⟨y, z, w, rfl⟩
        | shape s a b => simp [Tm.d, tShape, Tm.isFn]; exact ⟨y, z, w, rfl⟩
        | lets bs a => simp [Tm.d, Tm.isFn]; exact ⟨y, z, w, rfl⟩
        | choose a cs => simp [Tm.d, Tm.isFn]; exact ⟨y, z, w, rfl⟩
      subst e
      refine seq_sat (LnI t.d L M (if t.tag = "let" then [] else t.own)) ?_ fun ρ ⟨y, z, w, e⟩ => ?_
      · by_cases isc : ∃ a cs, t = .choose a cs
        · obtain ⟨a, cs, rfl⟩ := isc
          obtain ⟨c2, cw⟩ := g.2.2
          simp [Tm.d, Tm.isFn, Tm.tag]
          refine forL_sat _ _ (fun i ρ => LnI (.tup [.str "choose", a.d, .tup cs.d]) L M ((cs.l.take i).flatMap (·.2.1)) ρ) ⟨y, z, w, by simp⟩ (fun i d ρ hd ⟨y, z, w, e⟩ => ?_) (fun ρ h => ⟨rfl, by rw [show cs.d.length = cs.l.length by rw [Cs.d_l, List.length_map], List.take_length] at h; exact h⟩)
          obtain ⟨s, ws, u, hc, rfl⟩ := csd_at hd
          subst e
          refine ⟨_, rfl, ?_⟩
          have w2 : ws.length ≤ 2 := cw _ (List.mem_of_getElem? hc)
          have il := (List.getElem?_eq_some_iff.mp hc).1
          have l2 : ((cs.l.take i).flatMap (·.2.1)).length ≤ 2 * i := by
            have : ∀ l : List (Str × List Str × Tm), (∀ p ∈ l, p.2.1.length ≤ 2) → (l.flatMap (·.2.1)).length ≤ 2 * l.length := fun l => by
              induction l with
              | nil => exact fun _ => Nat.le_refl _
              | cons p r ih =>
                intro h
                rw [List.flatMap_cons, List.length_append, List.length_cons]
                have := h p List.mem_cons_self
                have := ih fun q hq => h q (List.mem_cons_of_mem _ hq)
                omega
            refine Nat.le_trans (this _ fun p hp => cw p (List.mem_of_mem_take hp)) ?_
            rw [List.length_take]
            omega
          have ex := fExt_t (ds := ((cs.l.take i).flatMap (·.2.1)).map D.str) (es := ws.map D.str) (Nat.le_of_lt (size_lt (by rw [List.length_map, List.length_map]; omega)))
          have tk : (cs.l.take (i + 1)).flatMap (·.2.1) = (cs.l.take i).flatMap (·.2.1) ++ ws := by
            rw [take_snoc hc, List.flatMap_append]
            simp
          rw [tk]
          generalize (cs.l.take i).flatMap (·.2.1) = acc at *
          simp [ex]
          exact ⟨_, _, _, by rw [List.map_append]⟩
        · have nt : ¬ t.tag = "choose" := fun q => isc (by cases t <;> first | exact ⟨_, _, rfl⟩ | (simp [Tm.tag] at q))
          have eo : (if t.isFn = true then t.own else []) = if t.tag = "let" then [] else t.own := by cases t <;> first | rfl | exact (isc ⟨_, _, rfl⟩).elim
          rw [eo]
          simp [tg, nt]
          exact ⟨y, z, w, rfl⟩
      subst e
      refine seq_sat (LnI t.d L (M ++ t.ownF.map frD) t.own) ?_ fun ρ ⟨y, z, w, e⟩ => ?_
      · by_cases isl : ∃ bs a, t = .lets bs a
        · obtain ⟨bs, a, rfl⟩ := isl
          have bl := bs_small hp g
          simp [Tm.d, Tm.tag]
          refine forL_sat _ _ (fun i => LnI (.tup [.str "let", .tup bs.d, a.d]) L (M ++ ((bs.l.take i).filter fun p => p.2.isFn).map frD) ((bs.l.take i).map (·.1))) ⟨y, z, w, by simp⟩ (fun i d ρ hd ⟨y, z, w, e⟩ => ?_) (fun ρ h => ⟨rfl, by rw [show bs.d.length = bs.l.length by rw [Bs.d_l, List.length_map], List.take_length] at h; rw [show (Tm.lets bs a).own = bs.l.map (·.1) from Bs.names_l bs]; exact h⟩)
          obtain ⟨x, u, hx, rfl⟩ := bsd_at hd
          subst e
          refine ⟨_, rfl, ?_⟩
          have tgu := tag_fn hp u
          have sn := ownF_snoc hx
          have ap := fApp_strs ((bs.l.take i).map (·.1)) x (by rw [List.length_map, List.length_take]; omega)
          have tk : (bs.l.take (i + 1)).map (·.1) = (bs.l.take i).map (·.1) ++ [x] := by rw [take_snoc hx, List.map_append]; rfl
          have fl2 : ((bs.l.take i).filter fun p => p.2.isFn).length ≤ 100 := Nat.le_trans (List.length_filter_le ..) (by rw [List.length_take]; omega)
          rw [tk]
          generalize (bs.l.take i).map (·.1) = nn at *
          by_cases c : u.isFn = true
          · have c' := (isFn_tag u).mp c
            have sn' : ((bs.l.take (i + 1)).filter fun p => p.2.isFn).map frD = ((bs.l.take i).filter fun p => p.2.isFn).map frD ++ [(x, u.d)] := by
              rw [sn, if_pos c, List.map_append]
              rfl
            rw [sn', ← List.append_assoc]
            have hl : (M ++ ((bs.l.take i).filter fun p => p.2.isFn).map frD).length ≤ 60000 := by rw [List.length_append, List.length_map]; omega
            generalize M ++ ((bs.l.take i).filter fun p => p.2.isFn).map frD = MM at *
            have ap2 : fApp (MM.map fun p => D.tup [.str p.1, p.2]) [.tup [.str x, u.d]] = some (.non, (MM.map fun p => D.tup [.str p.1, p.2]) ++ [.tup [.str x, u.d]]) := fApp_r (size_lt (by rw [List.length_map]; omega))
            rw [c'] at tgu
            simp [tgu, ap, ap2, -List.map_append]
            exact ⟨_, _, _, by rw [show (MM ++ [(x, u.d)]).map (fun p => D.tup [.str p.1, p.2]) = (MM.map fun p => D.tup [.str p.1, p.2]) ++ [.tup [.str x, u.d]] from List.map_append ..]⟩
          · have c' : ¬ u.tag = "fun" := fun q => c ((isFn_tag u).mpr q)
            have sn' : ((bs.l.take (i + 1)).filter fun p => p.2.isFn).map frD = ((bs.l.take i).filter fun p => p.2.isFn).map frD := by
              rw [sn, if_neg c, List.append_nil]
            rw [sn']
            simp [tgu, c', ap, -List.map_append]
            exact ⟨_, _, _, rfl⟩
        · have nt : ¬ t.tag = "let" := fun q => isl (by cases t <;> first | exact ⟨_, _, rfl⟩ | (simp [Tm.tag] at q))
          have no : t.ownF = [] := by cases t <;> first | rfl | exact (isl ⟨_, _, rfl⟩).elim
          simp [tg, nt]
          exact ⟨y, z, w, by rw [no]; simp⟩
      subst e
      refine seq_sat (LnI t.d (L ++ t.own) (M ++ t.ownF.map frD) t.own) ?_ fun ρ ⟨y, z, w, e⟩ => ?_
      · simp only [sFor_r, eItL_r, eVar_r, bind_ok, List.getD_cons_succ, List.getD_cons_zero, dLst_l]
        refine forL_sat _ _ (fun i => LnI t.d (L ++ t.own.take i) (M ++ t.ownF.map frD) t.own) ⟨_, _, _, by rw [List.take_zero, List.append_nil]⟩ (fun i d ρ hd ⟨y, z, w, e⟩ => ?_) (fun ρ h => ⟨rfl, by rw [List.length_map, List.take_length] at h; exact h⟩)
        obtain ⟨x, hx, rfl⟩ := map_at hd
        subst e
        refine ⟨_, rfl, ?_⟩
        have sz : (cntL (L ++ t.own.take i)).length < sizeLine := size_lt (Nat.le_trans (cntL_le (pool := pool) fun z hz => by
          rcases List.mem_append.mp hz with q | q
          · exact hL z q
          · exact oin z (List.mem_of_mem_take q)) (by omega))
        have tk : L ++ t.own.take (i + 1) = L ++ t.own.take i ++ [x] := by rw [take_snoc hx, List.append_assoc]
        rw [tk]
        generalize L ++ t.own.take i = LL at *
        simp [cntL_getD, sz, cnt_eq, -List.map_append]
        exact ⟨_, _, _, rfl⟩
      subst e
      simp [e2, -List.map_append]
      refine forL_sat _ _ (fun i => LnI t.d (L ++ (t.own ++ (t.pts.take i).flatMap Tm.bn)) (M ++ (t.ownF ++ (t.pts.take i).flatMap Tm.fl).map frD) t.own) ⟨y, z, w, by simp⟩ (fun i d ρ hd ⟨y, z, w, e⟩ => ?_) (fun ρ ⟨y, z, w, e⟩ => ?_)
      · obtain ⟨u, hu, rfl⟩ := map_at hd
        subst e
        refine ⟨_, rfl, ?_⟩
        have um := List.mem_of_getElem? hu
        have ud := Tm.pts_dp um
        obtain ⟨p', rfl⟩ : ∃ p', p = p' + 1 := ⟨p - 1, by omega⟩
        have cntb : (t.pts.take (i + 1)).flatMap Tm.fl = (t.pts.take i).flatMap Tm.fl ++ u.fl := by rw [take_snoc hu, List.flatMap_append]; simp
        have lens : ((t.pts.take (i + 1)).flatMap Tm.fl).length ≤ (t.pts.flatMap Tm.fl).length := by
          conv => rhs; rw [← List.take_append_drop (i + 1) t.pts]
          rw [List.flatMap_append, List.length_append]
          omega
        obtain ⟨o3, e3, ho⟩ := llook_e p' u (k + 1) (L ++ (t.own ++ (t.pts.take i).flatMap Tm.bn)) (M ++ (t.ownF ++ (t.pts.take i).flatMap Tm.fl).map frD) (by omega) (pts_gd g u um) (by omega) (fun x hx => by
          rcases List.mem_append.mp hx with h | h
          · exact hL x h
          · rcases List.mem_append.mp h with h | h
            · exact oin x h
            · obtain ⟨v, hv, hx⟩ := List.mem_flatMap.mp h
              exact bn_in v (pts_gd g v (List.mem_of_mem_take hv)) x hx) (by
          rw [cntb, List.length_append] at lens
          rw [fe, List.length_append] at hM
          rw [List.length_append, List.length_map, List.length_append]
          omega)
        subst ho
        simp [e3, -List.map_append, -List.append_assoc]
        refine ⟨y, z, u.d, ?_⟩
        rw [take_snoc hu, List.flatMap_append, List.flatMap_append]
        simp
      · subst e
        rw [List.length_map, List.take_length, ← bn_eq, ← fl_eq]
        simp
    obtain ⟨d, o, e, rfl, rfl⟩ := key.ex
    exact ⟨_, e, rfl⟩
end
end Law
namespace Law
open PySem L2 VL
def isS (t : Tm) (p : Str × Tm) : Bool := t.bn.count p.1 == 1
def rowD (p : Str × Tm) : D := .tup [.lst (p.2.fs.1.map D.str), p.2.fs.2.d]
def rowKvs (l : List (Str × Tm)) : Kvs := l.map fun p => (.inr p.1, rowD p)
def lenKvs (l : List (Str × Tm)) : Kvs := l.map fun p => (.inr p.1, .int p.2.fs.1.length)
theorem take_filter_fresh {l : List (Str × Tm)} {P : Str × Tm → Bool} (nd : ((l.filter P).map (·.1)).Nodup) {i : Nat} {q : Str × Tm} (h : l[i]? = some q) (hq : P q = true) : ∀ p ∈ (l.take i).filter P, p.1 ≠ q.1 := fun p hp e => by
  have ll : l.filter P = (l.take i).filter P ++ q :: (l.drop (i + 1)).filter P := by
    have il := (List.getElem?_eq_some_iff.mp h).1
    conv => lhs; rw [← List.take_append_drop i l]
    rw [List.filter_append]
    congr 1
    rw [List.drop_eq_getElem_cons il, List.filter_cons, show l[i] = q from Option.some.inj ((List.getElem?_eq_getElem il).symm.trans h), if_pos hq]
  rw [ll, List.map_append, List.nodup_append] at nd
  exact nd.2.2 p.1 (List.mem_map.mpr ⟨p, hp, rfl⟩) q.1 (by simp) e
theorem filter_snoc {l : List (Str × Tm)} (P : Str × Tm → Bool) {i : Nat} {q : Str × Tm} (h : l[i]? = some q) : (l.take (i + 1)).filter P = (l.take i).filter P ++ if P q = true then [q] else [] := by
  rw [take_snoc h, List.filter_append, List.filter_cons]
  rfl
structure SrI (td : D) (L : List Str) (fkv : Kvs) (l : List (Str × Tm)) (ρ : List D) : Prop where
  out : ∃ (y z : D), ρ = [td, .dic (cntL L), .dic fkv, .dic (rowKvs l), y, z]
structure SoI (td : D) (l : List (Str × Tm)) (ρ : List D) : Prop where
  out : ∃ (y z : D), ρ = [td, .dic (lenKvs l), y, z]
structure DuI (td : D) (L : List Str) (fs : List D) (kvs : Kvs) (ρ : List D) : Prop where
  out : ∃ (y z : D), ρ = [td, .dic (cntL L), .lst fs, .dic kvs, y, z]
section
variable {pool : List Str} (hp : pool.length ≤ 100)
include hp
omit hp in
theorem small_of {l : List (Str × Tm)} (nd : (l.map (·.1)).Nodup) (h : ∀ p ∈ l, p.1 ∈ pool) : l.length ≤ pool.length := by
  have := nodup_le nd (m := pool) fun z hz => by
    obtain ⟨p, hp, rfl⟩ := List.mem_map.mp hz
    exact h p hp
  rwa [List.length_map] at this
theorem rows_e (p : Nat) (hpp : p ≤ 900) (n : Nat) (t : Tm) (td : t.dp ≤ p) (g : t.gd pool) (hn : p + 2 ≤ n) : ∃ o, Fn (n + 1) .sole_rows [t.d] = .ok (.dic (rowKvs t.sole)) o := by
  have key : (Fn (n + 1) .sole_rows [t.d]).sat fun d _ => d = .dic (rowKvs t.sole) := by
    rw [show Fn (n + 1) .sole_rows = mkF false 6 1 (b_sole_rows (Fn n)) from rfl]
    refine mkF_sat ?_
    unfold b_sole_rows
    obtain ⟨o1, e1, ho⟩ := look_e hp p t n [] [] td g hn nofun nofun
    obtain ⟨k, rfl⟩ : ∃ k, n = k + 1 := ⟨n - 1, by omega⟩
    subst ho
    rw [List.nil_append, List.nil_append] at e1
    have e1 : Fn (k + 1) .look_through [t.d, .dic [], .dic []] = .ok .non [t.d, .dic (cntL t.bn), .dic (dOf (t.fl.map frD))] := e1
    rw [show t.fl.map frD = t.fl.map fun p => (p.1, p.2.d) from rfl, dT_d] at e1
    have nd := dT_nd t.fl
    have mem : ∀ q ∈ dT t.fl, q ∈ t.fl := fun q => dT_mem t.fl
    have sd : (dT t.fl).filter (isS t) = t.sole := sole_dT t
    generalize dT t.fl = K at *
    simp [e1]
    have it : itemsD (K.map gD) = K.map fun p => .tup [.str p.1, p.2.d] := by
      unfold itemsD
      rw [List.map_map]
      rfl
    rw [it]
    refine forL_sat _ _ (fun i => SrI t.d t.bn (K.map gD) ((K.take i).filter (isS t))) ⟨_, _, rfl⟩ (fun i d ρ hd ⟨y, z, e⟩ => ?_) (fun ρ ⟨y, z, e⟩ => ?_)
    · obtain ⟨q, hq, rfl⟩ := map_at hd
      subst e
      refine ⟨_, rfl, ?_⟩
      have qm := mem q (List.mem_of_getElem? hq)
      have hb := fl_bn qm
      obtain ⟨q1, q2, q3, q4⟩ := fl_in t g q qm
      have cv := cntL_val t.bn q.1
      rw [if_pos hb] at cv
      obtain ⟨o2, e2⟩ := row_e k q.2 (by omega)
      have fs := filter_snoc (isS t) hq
      have ndf : ((K.filter (isS t)).map (·.1)).Nodup := nd.sublist (List.filter_sublist.map _)
      by_cases c : t.bn.count q.1 = 1
      · have cS : isS t q = true := beq_iff_eq.mpr c
        rw [if_pos cS] at fs
        have fr := take_filter_fresh ndf hq cS
        have sz : (rowKvs ((K.take i).filter (isS t))).length < sizeLine := by
          unfold rowKvs
          rw [List.length_map]
          have l1 : ((K.take i).filter (isS t)).length ≤ K.length := Nat.le_trans (List.length_filter_le ..) (by rw [List.length_take]; omega)
          have l2 := small_of (pool := pool) nd fun r hr => (fl_in t g r (mem r hr)).1
          exact size_lt (by omega)
        have ds : dSet (rowKvs ((K.take i).filter (isS t))) (.inr q.1) (rowD q) = rowKvs ((K.take (i + 1)).filter (isS t)) := by
          rw [fs, dSet_fresh]
          · unfold rowKvs; rw [List.map_append]; rfl
          · rintro kv hk e
            obtain ⟨r, hr, rfl⟩ := List.mem_map.mp hk
            exact fr r hr (Sum.inr.inj e)
        have c' : (t.bn.count q.1 : Int) = 1 := by omega
        simp [cv, c', e2, sz]
        exact ⟨_, _, by rw [← ds]; rfl⟩
      · have cS : ¬ isS t q = true := fun h => c (beq_iff_eq.mp h)
        rw [if_neg cS, List.append_nil] at fs
        have c' : ¬ (t.bn.count q.1 : Int) = 1 := by omega
        simp [cv, c']
        exact ⟨_, _, by rw [fs]⟩
    · subst e
      rw [List.length_map, List.take_length, sd]
      simp
  obtain ⟨d, o, e, rfl⟩ := key.ex
  exact ⟨o, e⟩
theorem soleL {t : Tm} (g : t.gd pool) : t.sole.length ≤ 100 := Nat.le_trans (small_of (sole_nodup t) fun p hp => (sole_in g p hp).1) hp
theorem sole_e (p : Nat) (hpp : p ≤ 900) (n : Nat) (t : Tm) (td : t.dp ≤ p) (g : t.gd pool) (hn : p + 3 ≤ n) : ∃ o, Fn (n + 1) .sole [t.d] = .ok (.dic (lenKvs t.sole)) o := by
  have key : (Fn (n + 1) .sole [t.d]).sat fun d _ => d = .dic (lenKvs t.sole) := by
    rw [show Fn (n + 1) .sole = mkF false 4 1 (b_sole (Fn n)) from rfl]
    refine mkF_sat ?_
    unfold b_sole
    obtain ⟨k, rfl⟩ : ∃ k, n = k + 1 := ⟨n - 1, by omega⟩
    obtain ⟨o1, e1⟩ := rows_e hp p hpp k t td g (by omega)
    have sl := soleL hp g
    have nd := sole_nodup t
    generalize hK : t.sole = K at *
    simp [e1]
    have it : itemsD (rowKvs K) = K.map fun p => .tup [.str p.1, rowD p] := by
      unfold itemsD rowKvs
      rw [List.map_map]
      rfl
    rw [it]
    refine forL_sat _ _ (fun i => SoI t.d (K.take i)) ⟨_, _, rfl⟩ (fun i d ρ hd ⟨y, z, e⟩ => ?_) (fun ρ ⟨y, z, e⟩ => ?_)
    · obtain ⟨q, hq, rfl⟩ := map_at hd
      subst e
      refine ⟨_, rfl, ?_⟩
      have sz : (lenKvs (K.take i)).length < sizeLine := by
        unfold lenKvs
        rw [List.length_map, List.length_take]
        exact size_lt (by omega)
      have fr : ∀ r ∈ K.take i, r.1 ≠ q.1 := fun r hr e => by
        have := take_filter_fresh (l := K) (P := fun _ => true) (by rw [show K.filter (fun _ => true) = K from List.filter_eq_self.mpr fun _ _ => rfl]; exact nd) hq rfl r (by simpa using hr)
        exact this e
      have ds : dSet (lenKvs (K.take i)) (.inr q.1) (.int q.2.fs.1.length) = lenKvs (K.take (i + 1)) := by
        rw [take_snoc hq, dSet_fresh]
        · unfold lenKvs; rw [List.map_append]; rfl
        · rintro kv hk e
          obtain ⟨r, hr, rfl⟩ := List.mem_map.mp hk
          exact fr r hr (Sum.inr.inj e)
      have ix : dIxAt 0 (rowD q) (.int 0) = some (.lst (q.2.fs.1.map D.str)) := rfl
      simp [ix, sz, ds]
      exact ⟨_, _, rfl⟩
    · subst e
      rw [List.length_map, List.take_length]
      simp
  obtain ⟨d, o, e, rfl⟩ := key.ex
  exact ⟨o, e⟩
theorem due_e (p : Nat) (hpp : p ≤ 900) (n : Nat) (t : Tm) (td : t.dp ≤ p) (g : t.gd pool) (hf : t.fl.length ≤ 50000) (hn : p + 2 ≤ n) : ∃ o, Fn (n + 1) ._law_due [t.d] = .ok (.dic (lenKvs t.sole)) o := by
  have key : (Fn (n + 1) ._law_due [t.d]).sat fun d _ => d = .dic (lenKvs t.sole) := by
    rw [show Fn (n + 1) ._law_due = mkF false 6 1 (b__law_due (Fn n)) from rfl]
    refine mkF_sat ?_
    unfold b__law_due
    obtain ⟨o1, e1, ho⟩ := llook_e hp p t n [] [] td g hn nofun (by simpa using hf)
    subst ho
    rw [List.nil_append, List.nil_append] at e1
    have e1 : Fn n ._law_look [t.d, .dic [], .lst []] = .ok .non [t.d, .dic (cntL t.bn), .lst ((t.fl.map frD).map fun p => .tup [.str p.1, p.2])] := e1
    have nd := sole_nodup t
    have sl := soleL hp g
    have hF : (t.fl.map frD).map (fun p => D.tup [.str p.1, p.2]) = t.fl.map fun p => .tup [.str p.1, p.2.d] := by rw [List.map_map]; rfl
    rw [hF] at e1
    simp [e1]
    generalize hfs : t.fl.map (fun p => D.tup [.str p.1, p.2.d]) = fs
    conv => arg 1; arg 3; rw [← hfs]
    refine forL_sat _ _ (fun i => DuI t.d t.bn fs (lenKvs ((t.fl.take i).filter (isS t)))) ⟨_, _, rfl⟩ (fun i d ρ hd ⟨y, z, e⟩ => ?_) (fun ρ ⟨y, z, e⟩ => ?_)
    · obtain ⟨q, hq, rfl⟩ := map_at hd
      subst e
      refine ⟨_, rfl, ?_⟩
      have qm := List.mem_of_getElem? hq
      have hb := fl_bn qm
      obtain ⟨q1, q2, q3, q4⟩ := fl_in t g q qm
      have cv := cntL_val t.bn q.1
      rw [if_pos hb] at cv
      have fsn := filter_snoc (isS t) hq
      by_cases c : t.bn.count q.1 = 1
      · have cS : isS t q = true := beq_iff_eq.mpr c
        rw [if_pos cS] at fsn
        have fr := take_filter_fresh (P := isS t) nd hq cS
        have fr' : ∀ kv ∈ lenKvs ((t.fl.take i).filter (isS t)), kv.1 ≠ .inr q.1 := by
          rintro kv hk e
          obtain ⟨r, hr, rfl⟩ := List.mem_map.mp hk
          exact fr r hr (Sum.inr.inj e)
        have l1 : ((t.fl.take i).filter (isS t)).length ≤ 100 := by
          have : ((t.fl.take i).filter (isS t)).length ≤ (t.fl.filter (isS t)).length := ((List.take_sublist i t.fl).filter _).length_le
          exact Nat.le_trans this sl
        have sz : (lenKvs ((t.fl.take i).filter (isS t))).length < sizeLine := by
          unfold lenKvs
          rw [List.length_map]
          exact size_lt (by omega)
        have sz2 : ∀ d : D, (lenKvs ((t.fl.take i).filter (isS t)) ++ [((.inr q.1 : Key), d)]).length < sizeLine := fun d => by
          unfold lenKvs
          rw [List.length_append, List.length_map]
          exact size_lt (by simp; omega)
        have c' : (t.bn.count q.1 : Int) = 1 := by omega
        have fin : lenKvs ((t.fl.take (i + 1)).filter (isS t)) = lenKvs ((t.fl.take i).filter (isS t)) ++ [(.inr q.1, .int q.2.fs.1.length)] := by
          rw [fsn]
          unfold lenKvs
          rw [List.map_append]
          rfl
        rw [fin]
        have ds := dSet_fresh (d := .int 0) fr'
        have dl := fun (a b : D) => dSet_last (d := a) (e := b) fr'
        have dv := fun (a : D) => dVal_last (d := a) fr'
        simp [cv, c', sz, ds]
        generalize lenKvs ((t.fl.take i).filter (isS t)) = base at *
        refine while_sat (fun m ρ => ∃ (u : Tm) (c : Nat), ρ = [t.d, .dic (cntL t.bn), .lst fs, .dic (base ++ [(.inr q.1, .int c)]), .str q.1, u.d] ∧ c + u.fs.1.length = q.2.fs.1.length ∧ u.dp = m) (fun m ρ ⟨u, c, e, h1, h2⟩ => ?_) 100000 q.2.dp _ (by omega) ⟨q.2, 0, rfl, Nat.zero_add _, rfl⟩
        subst e
        rcases u.is_fn with ⟨y, b, rfl⟩ | ⟨nt, _, _⟩
        · have s2 := sz2 (.int c)
          simp [Tm.d, tFun, dv, dl, s2]
          simp at s2
          have e3 : (Tm.fn y b).fs.1.length = b.fs.1.length + 1 := rfl
          refine ⟨s2, b.dp, by rw [← h2]; exact Nat.lt_succ_self _, b, c + 1, ⟨by simp, rfl⟩, by omega, rfl⟩
        · obtain ⟨r, er⟩ := u.d_tag
          have eu : u.fs = ([], u) := by cases u <;> first | rfl | (exact absurd rfl nt)
          rw [eu] at h1
          rw [er]
          simp [nt]
          have h1 : c = q.2.fs.1.length := h1
          rw [h1]
          exact ⟨_, _, rfl⟩
      · have cS : ¬ isS t q = true := fun h => c (beq_iff_eq.mp h)
        rw [if_neg cS, List.append_nil] at fsn
        have c' : ¬ (t.bn.count q.1 : Int) = 1 := by omega
        simp [cv, c']
        exact ⟨_, _, by rw [fsn]⟩
    · subst e
      rw [List.length_map, List.take_length]
      simp
      rfl
  obtain ⟨d, o, e, rfl⟩ := key.ex
  exact ⟨o, e⟩
end
end Law
namespace Law
open PySem L2 VL
theorem alike_e (n : Nat) {l : List (Str × Tm)} (nd : (l.map (·.1)).Nodup) : ∃ o, Fn (n + 1) ._law_alike [.dic (lenKvs l), .dic (lenKvs l)] = .ok (.bl true) o := by
  have key : (Fn (n + 1) ._law_alike [.dic (lenKvs l), .dic (lenKvs l)]).sat fun d _ => d = .bl true := by
    rw [show Fn (n + 1) ._law_alike = mkF false 4 2 (b__law_alike (Fn n)) from rfl]
    refine mkF_sat ?_
    unfold b__law_alike
    have ne := dHits_self (n := 0) (kvs := lenKvs l) (fs_inr nd fun p => .int p.2.fs.1.length) (fun kv hk => by
      obtain ⟨r, hr, rfl⟩ := List.mem_map.mp hk
      exact .int ..) (by decide)
    refine seq_sat (fun ρ => ρ = [.dic (lenKvs l), .dic (lenKvs l), .non, .non]) ?_ fun ρ e => ?_
    · simp [isCls, D.cls, ne]
    subst e
    simp
    refine forL_sat _ _ (fun i ρ => ∃ y z, ρ = [.dic (lenKvs l), .dic (lenKvs l), y, z]) ⟨_, _, rfl⟩ (fun i d ρ hd ⟨y, z, e⟩ => ?_) (fun ρ ⟨y, z, e⟩ => ?_)
    · have : ∃ q : Str × Tm, d = .tup [.str q.1, .int q.2.fs.1.length] := by
        unfold itemsD lenKvs at hd
        rw [List.map_map] at hd
        obtain ⟨q, _, rfl⟩ := map_at hd
        exact ⟨q, rfl⟩
      obtain ⟨q, rfl⟩ := this
      subst e
      refine ⟨_, rfl, ?_⟩
      simp [isCls, D.cls]
    · subst e
      simp
  obtain ⟨d, o, e, rfl⟩ := key.ex
  exact ⟨o, e⟩
section
variable {pool : List Str}
theorem closed_s (n a : Nat) (cs : List Int) (l s : Int) (f : Nat) (F : Int) (hF : F ≤ f) (hn : 3 * f + 8 ≤ n) (hc : cs.length ≤ 10000) (I : In4 pool pool [] [] (3 * f + 3)) :
    (Fn n ._law_closed_term [stD a cs l s, .lst (pool.map D.str), .int F]).sat fun d o => ∃ (t : Tm) (a : Nat) (l : Int) (x y : D), d = t.d ∧ t.gd pool ∧ (t.dp ≤ 7 * f + 8 ∧ t.m2 ≤ 3 * f + 3) ∧ o = [stD a cs l s, x, y] := by
  obtain ⟨j, rfl⟩ : ∃ j, n = j + 2 := ⟨n - 2, by omega⟩
  rw [show Fn (j + 2) ._law_closed_term = mkF false 4 3 (b__law_closed_term (Fn (j + 1))) from rfl]
  refine mkF_sat ?_
  unfold b__law_closed_term
  refine seq_sat (fun ρ => ∃ c : Int, ρ = [stD (a + 1) cs l s, .lst (pool.map D.str), .int F, .int c]) ?_ fun ρ ⟨c, e⟩ => ?_
  · simp
    refine (next_s j a cs l s hc).mono fun d o ⟨c, e1, _, e2⟩ => ?_
    subst e1 e2
    simp
  subst e
  have lt := let_s f (any_s f) F (j + 1) (a + 1) cs l s pool [] [] hF (by omega) hc I
  have an := any_s f F (j + 1) (a + 1) cs l s pool [] [] hF (by omega) hc (I.less (by omega))
  simp only [List.map_nil] at lt an
  by_cases c0 : c % 4 > 0
  · simp [mod_r _ 4 (by decide), c0]
    refine lt.mono fun d o ⟨t, a', l', x', y, z, w, e1, tg, td, e2⟩ => ?_
    subst e1 e2
    simp
    exact ⟨t, rfl, tg, by omega, a', l', rfl⟩
  · have c1 : c % 4 = 0 := by omega
    simp [mod_r _ 4 (by decide), c1]
    refine an.mono fun d o ⟨t, a', l', x', y, z, w, e1, tg, td, e2⟩ => ?_
    subst e1 e2
    simp
    exact ⟨t, rfl, tg, by omega, a', l', rfl⟩
end
theorem law_true (ns : List Int) (h : ns.length ≤ 63) : ∃ outs, Fn 200 .law [.lst (ns.map D.int)] = .ok (.bl true) outs := by
  have key : (Fn 200 .law [.lst (ns.map D.int)]).sat fun d _ => d = .bl true := by
    rw [show Fn 200 .law = mkF false 7 1 (b_law (Fn 199)) from rfl]
    refine mkF_sat ?_
    unfold b_law
    have hc : ns.length ≤ 10000 := by omega
    have at2 : ∀ p q r t : D, atI [p, q, r, t] 2 = some r := fun _ _ _ _ => rfl
    refine seq_sat (fun ρ => ∃ s : Int, ρ = [.lst (ns.map D.int), stD 0 ns 0 s, .non, .non, .non, .non, .non]) ?_ fun ρ ⟨s, e⟩ => ?_
    · simp
      refine (state_s 198 ns 0).mono fun d o ⟨s, e⟩ => ?_
      subst e
      try simp
      exact ⟨s, rfl⟩
    subst e
    refine seq_sat (fun ρ => ∃ c : Int, 0 ≤ c ∧ ρ = [.lst (ns.map D.int), stD 1 ns 0 s, .int c, .non, .non, .non, .non]) ?_ fun ρ ⟨c, c0, e⟩ => ?_
    · simp
      refine (next_s 198 0 ns 0 s hc).mono fun d o ⟨c, e1, h0, e2⟩ => ?_
      subst e1 e2
      simp
      exact h0
    subst e
    refine seq_sat (fun ρ => ∃ pool : List Str, 8 ≤ pool.length ∧ pool.length ≤ 24 ∧ pool.Nodup ∧ ρ = [.lst (ns.map D.int), stD 2 ns 0 s, .int c, .lst (pool.map D.str), .non, .non, .non]) ?_ fun ρ ⟨pool, pl, pl2, nd, e⟩ => ?_
    · simp
      refine (next_s 198 1 ns 0 s hc).mono fun d o ⟨q, e1, h0, e2⟩ => ?_
      subst e1 e2
      obtain ⟨m, hm, hm8, hm24⟩ : ∃ m : Nat, 8 + c % 17 = (m : Int) ∧ 8 ≤ m ∧ m ≤ 24 := ⟨(8 + c % 17).toNat, by omega, by omega, by omega⟩
      simp [mod_r _ 17 (by decide), hm]
      refine (pool_s 198 q m (by omega)).mono fun d o ⟨ws, e1, h1, h2, _⟩ => ?_
      subst e1
      simp
      exact ⟨ws, by omega, by omega, h2, rfl⟩
    subst e
    have I0 : In4 pool pool [] [] 200 := ⟨by omega, nd, by omega, fun z h => h, nofun, nofun, by decide, by decide⟩
    have hp : pool.length ≤ 100 := by omega
    refine seq_sat (fun ρ => ∃ l : Int, ρ = [.lst (ns.map D.int), stD 2 ns l s, .int c, .lst (pool.map D.str), .non, .non, .non]) ?_ fun ρ ⟨l2, e⟩ => ?_
    · have dm : dMul (.int (c / 17 % 36)) (.int 2) = some (.int (c / 17 % 36 * 2)) := dMul_r (mulOk_r (by constructor <;> decide))
      simp [stD, div_r c 17 (by decide) (by decide), mod_r _ 36 (by decide), dm]
    subst e
    refine seq_sat (fun ρ => ∃ (t1 : Tm) (a' : Nat) (l' : Int), t1.gd pool ∧ (t1.dp ≤ 40 ∧ t1.m2 ≤ 15) ∧ ρ = [.lst (ns.map D.int), stD a' ns l' s, .int c, .lst (pool.map D.str), t1.d, .non, .non]) ?_ fun ρ ⟨t1, a1, l1, g1, d1, e⟩ => ?_
    · simp [div_r c 1224 (by decide) (by decide), mod_r _ 4 (by decide)]
      refine (closed_s 199 2 ns l2 s 4 (1 + c / 1224 % 4) (by omega) (by decide) hc (I0.less (by decide))).mono fun d o ⟨t, a', l', x', y', e1, tg, td, e2⟩ => ?_
      subst e1 e2
      simp
      exact ⟨t, tg, by omega, ⟨a', l', rfl⟩, rfl⟩
    subst e
    refine seq_sat (fun ρ => ρ = [.lst (ns.map D.int), stD a1 ns 8 s, .int c, .lst (pool.map D.str), t1.d, .non, .non]) ?_ fun ρ e => ?_
    · simp [stD]
    subst e
    refine seq_sat (fun ρ => ∃ (t2 : Tm) (a' : Nat) (l' : Int), t2.gd pool ∧ (t2.dp ≤ 40 ∧ t2.m2 ≤ 15) ∧ ρ = [.lst (ns.map D.int), stD a' ns l' s, .int c, .lst (pool.map D.str), t1.d, t2.d, .non]) ?_ fun ρ ⟨t2, a2, l2, g2, d2, e⟩ => ?_
    · have lt := let_s 2 (any_s 2) 2 199 a1 ns 8 s pool [] [] (by decide) (by decide) hc (I0.less (by decide))
      simp only [List.map_nil] at lt
      simp
      refine lt.mono fun d o ⟨t, a', l', x', y', z', w, e1, tg, td, e2⟩ => ?_
      subst e1 e2
      simp
      exact ⟨t, tg, by omega, ⟨a', l', rfl⟩, rfl⟩
    subst e
    have fl15 : ∀ t : Tm, t.gd pool → t.m2 ≤ 15 → t.fl.length ≤ 50000 := fun t g h => by
      have h1 := fl_m2 t g
      have h2 := pow_up h
      have : (2 : Nat) ^ 15 = 32768 := rfl
      omega
    obtain ⟨o1, e1⟩ := sole_e hp 40 (by decide) 198 t1 d1.1 g1 (by decide)
    obtain ⟨o2, e2⟩ := sole_e hp 40 (by decide) 198 t2 d2.1 g2 (by decide)
    obtain ⟨o3, e3⟩ := due_e hp 40 (by decide) 198 t1 d1.1 g1 (fl15 t1 g1 d1.2) (by decide)
    obtain ⟨o4, e4⟩ := due_e hp 40 (by decide) 198 t2 d2.1 g2 (fl15 t2 g2 d2.2) (by decide)
    obtain ⟨o5, e5⟩ := alike_e 198 (sole_nodup t1)
    obtain ⟨o6, e6⟩ := alike_e 198 (sole_nodup t2)
    have s1 := soleL hp g1
    have sz : (lenKvs t1.sole).length < sizeLine := by
      unfold lenKvs
      rw [List.length_map]
      exact size_lt (by omega)
    have p0 : atI (pool.map D.str) 0 = some (.str pool[0]) := atI_r (i := 0) (by rw [List.getElem?_map, List.getElem?_eq_getElem (by omega)]; rfl)
    simp [e1, e2, e3, e4, e5, e6, p0, sz]
  obtain ⟨d, outs, e, rfl⟩ := key.ex
  exact ⟨outs, e⟩
end Law
open PySem PySem.W PyProof.Rows
set_option maxHeartbeats 0 in
theorem PySem.Challenge.cw_idlegraph_k63_sole_functions_holds : PySem.Challenge.rw_idlegraph_k63_sole_functions.Holds := by
  w_on; o_law; k_head; (case hw => w_witness2)
  k_fill
  refine L2.walk_of (l := PySem.Challenge.rw_idlegraph_k63_sole_functions) (n := 63) (k := 200) (x := "_law_script") (CX := fun _ => L2.CX0) (sp := fun w => VL.spF _ VL.XR0 [.fz (.L .im)] (.fz .im) (Law.Fn 200 .law)) rfl (by decide) rfl ⟨rfl, by decide, by decide⟩ (fun w h Y => PySem.W.kIn_of Y) ?F (fun w H a ns hl _ hS => let ⟨outs, h⟩ := Law.law_true ns hl; VL.law_sp hS h) (fun _ _ _ _ _ h => h)
  case F =>
    intro w mg fa h KX G hmg
    refine' Law.all_mk KX G hmg ?a_row_of ?l_row_of ?c_row_of ?k_row_of ?a_parts ?l_parts ?c_parts ?k_parts ?a_bound_by ?l_bound_by ?c_bound_by ?k_bound_by ?a_look_through ?l_look_through ?c_look_through ?k_look_through ?a_sole_rows ?l_sole_rows ?c_sole_rows ?k_sole_rows ?a_sole ?l_sole ?c_sole ?k_sole ?a__law_next ?l__law_next ?c__law_next ?k__law_next ?a__law_state ?l__law_state ?c__law_state ?k__law_state ?a__law_pool ?l__law_pool ?c__law_pool ?k__law_pool ?a__law_leaf ?l__law_leaf ?c__law_leaf ?k__law_leaf ?a__law_choose ?l__law_choose ?c__law_choose ?k__law_choose ?a__law_funs ?l__law_funs ?c__law_funs ?k__law_funs ?a__law_let ?l__law_let ?c__law_let ?k__law_let ?a__law_call ?l__law_call ?c__law_call ?k__law_call ?a__law_any ?l__law_any ?c__law_any ?k__law_any ?a__law_parts ?l__law_parts ?c__law_parts ?k__law_parts ?a__law_look ?l__law_look ?c__law_look ?k__law_look ?a__law_closed_term ?l__law_closed_term ?c__law_closed_term ?k__law_closed_term ?a__law_due ?l__law_due ?c__law_due ?k__law_due ?a__law_alike ?l__law_alike ?c__law_alike ?k__law_alike ?a_law ?l_law ?c_law ?k_law ?z_bool ?z_dict ?z_enumerate ?z_int ?z_isinstance ?z_len ?z_list ?z_min ?z_range ?z_reversed ?z_tuple
    (case a_row_of => k_is)
    (case l_row_of => k_is)
    (case c_row_of => k_is)
    (case k_row_of => k_is)
    (case a_parts => k_is)
    (case l_parts => k_is)
    (case c_parts => k_is)
    (case k_parts => k_is)
    (case a_bound_by => k_is)
    (case l_bound_by => k_is)
    (case c_bound_by => k_is)
    (case k_bound_by => k_is)
    (case a_look_through => k_is)
    (case l_look_through => k_is)
    (case c_look_through => k_is)
    (case k_look_through => k_is)
    (case a_sole_rows => k_is)
    (case l_sole_rows => k_is)
    (case c_sole_rows => k_is)
    (case k_sole_rows => k_is)
    (case a_sole => k_is)
    (case l_sole => k_is)
    (case c_sole => k_is)
    (case k_sole => k_is)
    (case a__law_next => k_is)
    (case l__law_next => k_is)
    (case c__law_next => k_is)
    (case k__law_next => k_is)
    (case a__law_state => k_is)
    (case l__law_state => k_is)
    (case c__law_state => k_is)
    (case k__law_state => k_is)
    (case a__law_pool => k_is)
    (case l__law_pool => k_is)
    (case c__law_pool => k_is)
    (case k__law_pool => k_is)
    (case a__law_leaf => k_is)
    (case l__law_leaf => k_is)
    (case c__law_leaf => k_is)
    (case k__law_leaf => k_is)
    (case a__law_choose => k_is)
    (case l__law_choose => k_is)
    (case c__law_choose => k_is)
    (case k__law_choose => k_is)
    (case a__law_funs => k_is)
    (case l__law_funs => k_is)
    (case c__law_funs => k_is)
    (case k__law_funs => k_is)
    (case a__law_let => k_is)
    (case l__law_let => k_is)
    (case c__law_let => k_is)
    (case k__law_let => k_is)
    (case a__law_call => k_is)
    (case l__law_call => k_is)
    (case c__law_call => k_is)
    (case k__law_call => k_is)
    (case a__law_any => k_is)
    (case l__law_any => k_is)
    (case c__law_any => k_is)
    (case k__law_any => k_is)
    (case a__law_parts => k_is)
    (case l__law_parts => k_is)
    (case c__law_parts => k_is)
    (case k__law_parts => k_is)
    (case a__law_look => k_is)
    (case l__law_look => k_is)
    (case c__law_look => k_is)
    (case k__law_look => k_is)
    (case a__law_closed_term => k_is)
    (case l__law_closed_term => k_is)
    (case c__law_closed_term => k_is)
    (case k__law_closed_term => k_is)
    (case a__law_due => k_is)
    (case l__law_due => k_is)
    (case c__law_due => k_is)
    (case k__law_due => k_is)
    (case a__law_alike => k_is)
    (case l__law_alike => k_is)
    (case c__law_alike => k_is)
    (case k__law_alike => k_is)
    (case a_law => k_is)
    (case l_law => k_is)
    (case c_law => k_is)
    (case k_law => k_is)
    (case z_bool => k_is)
    (case z_dict => k_is)
    (case z_enumerate => k_is)
    (case z_int => k_is)
    (case z_isinstance => k_is)
    (case z_len => k_is)
    (case z_list => k_is)
    (case z_min => k_is)
    (case z_range => k_is)
    (case z_reversed => k_is)
    (case z_tuple => k_is)
