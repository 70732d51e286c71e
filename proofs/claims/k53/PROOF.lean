import PyProof.Rows.All
import Wide.All
import OpenK.AllK
import Wide.FinOn
import HandS.ForMost
import HandS.Exc
import HandS.CallSlots
import HandS.Lambda
import HandS.Zip
import PyProof.WalksMore
import HandS.TupAny
import HandS.List
import HandS.TupMul
import HandS.Deep
import HandS.IsInst
import KE.SortData
import HandS.TupSets
import HandS.EndTab
import KE.KStateDown
import HandS.Defaults
import HandS.Head0
import HandS.Head1
import HandS.Head2
import HandS.HeadEnd
import HandS.HeadHook1
import HandS.HeadHook2
import HandS.HeadHook3
import HandS.HeadHook4
import KE.LtData
import KE.DataCmp
import HandS.TupLe
import HandS.Style
import HandS.ExcOwn
import HandS.TryMany
import HandS.ExcIs
import HandS.SetFor
import KE.GoesMore
import HandS.Conv
import KE.KRevSl
import KE.GoesEnum
import KE.KDictList
import HandS.Iter
import HandS.Strs
import PySem.Challenge.RW_trackhouse_k53_whole_windows_and_least_m
set_option Elab.async false
set_option linter.all false
set_option maxRecDepth 100000
set_option maxHeartbeats 8000000
/-! Data over the hand layer: values with their tuples and fixed lists told as a whole (D), the objects that are changed (M). -/
namespace DL
open PySem PySem.Spec PyProof.Rows L2

/-- a value with all that it is made of; ref: an object that may be changed, a def, a class -/
inductive D where
  | non | bl (b : Bool) | int (i : Int) | str (s : Str) | tup (xs : List D) | lst (xs : List D) | scr (xs : List D) | ref (a : Addr) | ty (n : String) | dk (ks : List Key) (xs : List D)

/-- an object that may be changed -/
inductive OD where
  | lst (xs : List D)
  | ins (cl : Addr) (fs : List (Str × D))
  | priv
  /-- a dict whose keys are tuples of ints, each with True -/
  | kst (ks : List (List Int))
  /-- a range object -/
  | rng (lo hi : Int)

abbrev Mp := Addr → Option OD
def put (M : Mp) (a : Addr) (o : OD) : Mp := fun b => if b = a then some o else M b
def del (M : Mp) (a : Addr) : Mp := fun b => if b = a then none else M b
theorem put_same {M : Mp} {a : Addr} {o : OD} : put M a o a = some o := if_pos rfl
theorem put_ne {M : Mp} {a b : Addr} {o : OD} (h : b ≠ a) : put M a o b = M b := if_neg h
theorem put_put {M : Mp} {a : Addr} {o u : OD} : put (put M a o) a u = put M a u := by
  funext b; unfold put; split <;> rfl
theorem del_put {M : Mp} {a : Addr} {o : OD} (h : M a = none) : del (put M a o) a = M := by
  funext b; unfold del put; split
  · rename_i e; rw [e, h]
  · rfl
theorem del_same {M : Mp} {a : Addr} : del M a a = none := if_pos rfl
theorem del_ne {M : Mp} {a b : Addr} (h : b ≠ a) : del M a b = M b := if_neg h
theorem put_comm {M : Mp} {a b : Addr} {o u : OD} (h : a ≠ b) : put (put M a o) b u = put (put M b u) a o := by
  funext c; unfold put; split <;> split <;> first | rfl | (rename_i p q; exact absurd (q.symm.trans p) h)
theorem ne_fresh {M : Mp} {a p : Addr} {o : OD} (h : M a = some o) (hp : M p = none) : a ≠ p := by
  intro e; subst e; rw [h] at hp; cases hp
/-- less is known -/
def Sub (M N : Mp) : Prop := ∀ a o, M a = some o → N a = some o
theorem Sub.refl {M : Mp} : Sub M M := fun _ _ h => h
theorem Sub.trans {M N R : Mp} (a : Sub M N) (b : Sub N R) : Sub M R := fun c o h => b c o (a c o h)
theorem Sub.put {M N : Mp} {p : Addr} {o : OD} (h : Sub M N) (hp : M p = none) : Sub M (put N p o) := fun b u q => by
  rw [put_ne (ne_fresh q hp)]; exact h b u q
theorem Sub.del {M N : Mp} {p : Addr} (h : Sub M N) (hp : M p = none) : Sub M (DL.del N p) := fun b u q => by
  rw [del_ne (ne_fresh q hp)]; exact h b u q
theorem Sub.free {M N : Mp} {p : Addr} (h : Sub M N) (hp : N p = none) : M p = none := by
  cases e : M p with
  | none => rfl
  | some o => rw [h p o e] at hp; cases hp

section
variable (K : PySem.W.Frag) (H : Hp) (M : Mp)
/-- a list that nobody changes -/
def LsAt (a : Addr) (vs : List V) : Prop := M a = none ∧ H a = some (.lst vs)
/-- a dict that nobody changes, its keys ints and texts -/
def DkAt (a : Addr) (ks : List Key) (vs : List V) : Prop := (M a = none ∧ H a = some (.dK (ks.zip vs))) ∧ ks.length = vs.length
/-- .. that may be locked, or the module's -/
def ScAt (a : Addr) (vs : List V) : Prop := (M a = none ∧ Rd H a (.lst vs)) ∨
  (∃ (o : Obj) (its : Array Value) (n : Nat), K.lookup a = some o ∧ o.cls = .type "list" ∧ o.dict = none ∧ o.data = .seq its n ∧ its.size ≤ sizeLine ∧ Vals vs its.toList)
def TpAt (a : Addr) (vs : List V) : Prop := (M a = none ∧ Rd H a (.tup vs)) ∨
  (∃ (o : Obj) (its : Array Value) (n : Nat), K.lookup a = some o ∧ o.cls = .type "tuple" ∧ o.data = .seq its n ∧ its.size ≤ sizeLine ∧ Vals vs its.toList)
mutual
/-- v bears d -/
def Den : D → V → Prop
  | .non, v => v = .non
  | .bl b, v => v = .bl b
  | .int i, v => v = .int i
  | .str s, v => v = .str s
  | .ty n, v => v = .ty n
  | .ref a, v => v = .ref a
  | .tup ds, v => ∃ a vs, v = .ref a ∧ TpAt K H M a vs ∧ DenL ds vs
  | .lst ds, v => ∃ a vs, v = .ref a ∧ LsAt H M a vs ∧ DenL ds vs
  | .scr ds, v => ∃ a vs, v = .ref a ∧ ScAt K H M a vs ∧ DenL ds vs
  | .dk ks ds, v => ∃ a vs, v = .ref a ∧ DkAt H M a ks vs ∧ DenL ds vs
def DenL : List D → List V → Prop
  | [], vs => vs = []
  | d :: ds, vs => ∃ v r, vs = v :: r ∧ Den d v ∧ DenL ds r
end
end
variable {K : PySem.W.Frag} {H H' H2 : Hp} {M M' M2 : Mp}
theorem LsAt.sq {a : Addr} {vs : List V} (h : LsAt H M a vs) : SqL K H a vs := .inl (.inl h.2)
theorem ScAt.sq {a : Addr} {vs : List V} (h : ScAt K H M a vs) : SqL K H a vs := h.elim (fun h => .inl h.2) .inr
theorem TpAt.sq {a : Addr} {vs : List V} (h : TpAt K H M a vs) : SqT K H a vs := h.elim (fun h => .inl h.2) .inr

/-- nobody may change it -/
def Fx (x : Option OD) : Prop := x = none ∨ x = some .priv
/-- what stands and is not told as changing stands on -/
def Keep (H : Hp) (M : Mp) (H' : Hp) (M' : Mp) : Prop :=
  ∀ a o, H a = some o → Fx (M a) → (∀ ps, o ≠ .tbl ps) → (M' a = none ∨ M' a = M a) ∧ H' a = some o
theorem Keep.refl : Keep H M H M := fun a o h n _ => ⟨.inr rfl, h⟩
theorem Keep.trans (x : Keep H M H' M') (y : Keep H' M' H2 M2) : Keep H M H2 M2 := fun a o h n nt => by
  obtain ⟨n1, h1⟩ := x a o h n nt
  have f1 : Fx (M' a) := n1.elim .inl fun z => z ▸ n
  have up : (M2 a = none ∨ M2 a = M' a) → (M2 a = none ∨ M2 a = M a) := fun z => z.elim .inl fun z => n1.elim (fun w => .inl (z.trans w)) fun w => .inr (z.trans w)
  obtain ⟨n2, h2⟩ := y a o h1 f1 nt
  exact ⟨up n2, h2⟩
theorem Keep.at0 {a : Addr} {u : HO} (k : Keep H M H' M') (hn : M a = none) (h : H a = some u) (nt : ∀ ps, u ≠ .tbl ps) : M' a = none ∧ H' a = some u :=
  let ⟨n, e⟩ := k a u h (.inl hn) nt; ⟨n.elim id fun z => z.trans hn, e⟩
theorem Keep.rd {a : Addr} {u : HO} (k : Keep H M H' M') (hn : M a = none) (h : Rd H a u) (nt : ∀ ps, u ≠ .tbl ps) : M' a = none ∧ Rd H' a u := by
  rcases h with h | ⟨o, h⟩
  · obtain ⟨n, e⟩ := k.at0 hn h nt
    exact ⟨n, .inl e⟩
  · obtain ⟨n, e⟩ := k.at0 hn h fun _ z => nomatch z
    exact ⟨n, .inr ⟨o, e⟩⟩
/-- what nobody may change stands on -/
def KeepR (H : Hp) (M : Mp) (H' : Hp) (M' : Mp) : Prop := ∀ a u, H a = some u → M a = none → (∀ ps, u ≠ .tbl ps) → M' a = none ∧ H' a = some u
theorem Keep.r (k : Keep H M H' M') : KeepR H M H' M' := fun a u h n nt => k.at0 n h nt
theorem KeepR.rd {a : Addr} {u : HO} (k : KeepR H M H' M') (hn : M a = none) (h : Rd H a u) (nt : ∀ ps, u ≠ .tbl ps) : M' a = none ∧ Rd H' a u := by
  rcases h with h | ⟨o, h⟩
  · obtain ⟨n, e⟩ := k a u h hn nt
    exact ⟨n, .inl e⟩
  · obtain ⟨n, e⟩ := k a _ h hn fun _ z => nomatch z
    exact ⟨n, .inr ⟨o, e⟩⟩
theorem LsAt.keepR {a : Addr} {vs : List V} (k : KeepR H M H' M') (h : LsAt H M a vs) : LsAt H' M' a vs := k a _ h.2 h.1 fun _ z => nomatch z
theorem ScAt.keepR {a : Addr} {vs : List V} (k : KeepR H M H' M') (h : ScAt K H M a vs) : ScAt K H' M' a vs :=
  h.elim (fun h => .inl (k.rd h.1 h.2 fun _ z => nomatch z)) .inr
theorem TpAt.keepR {a : Addr} {vs : List V} (k : KeepR H M H' M') (h : TpAt K H M a vs) : TpAt K H' M' a vs :=
  h.elim (fun h => .inl (k.rd h.1 h.2 fun _ z => nomatch z)) .inr
mutual
theorem Den.keepR (k : KeepR H M H' M') : ∀ (d : D) {v : V}, Den K H M d v → Den K H' M' d v
  | .non, _, h => by simpa only [Den] using h
  | .bl _, _, h => by simpa only [Den] using h
  | .int _, _, h => by simpa only [Den] using h
  | .str _, _, h => by simpa only [Den] using h
  | .ty _, _, h => by simpa only [Den] using h
  | .ref _, _, h => by simpa only [Den] using h
  | .tup ds, _, h => by
    simp only [Den] at h ⊢
    obtain ⟨a, vs, e, t, l⟩ := h
    exact ⟨a, vs, e, t.keepR k, DenL.keepR k ds l⟩
  | .lst ds, _, h => by
    simp only [Den] at h ⊢
    obtain ⟨a, vs, e, t, l⟩ := h
    exact ⟨a, vs, e, t.keepR k, DenL.keepR k ds l⟩
  | .scr ds, _, h => by
    simp only [Den] at h ⊢
    obtain ⟨a, vs, e, t, l⟩ := h
    exact ⟨a, vs, e, t.keepR k, DenL.keepR k ds l⟩
  | .dk ks ds, _, h => by
    simp only [Den] at h ⊢
    obtain ⟨a, vs, e, t, l⟩ := h
    exact ⟨a, vs, e, ⟨k _ _ t.1.2 t.1.1 (fun _ z => nomatch z), t.2⟩, DenL.keepR k ds l⟩
theorem DenL.keepR (k : KeepR H M H' M') : ∀ (ds : List D) {vs : List V}, DenL K H M ds vs → DenL K H' M' ds vs
  | [], _, h => by simpa only [DenL] using h
  | d :: ds, _, h => by
    simp only [DenL] at h ⊢
    obtain ⟨v, r, e, x, y⟩ := h
    exact ⟨v, r, e, Den.keepR k d x, DenL.keepR k ds y⟩
end
theorem TpAt.keep {a : Addr} {vs : List V} (k : Keep H M H' M') (h : TpAt K H M a vs) : TpAt K H' M' a vs := h.keepR k.r
theorem Den.keep (k : Keep H M H' M') (d : D) {v : V} (h : Den K H M d v) : Den K H' M' d v := Den.keepR k.r d h
theorem DenL.keep (k : Keep H M H' M') (ds : List D) {vs : List V} (h : DenL K H M ds vs) : DenL K H' M' ds vs := DenL.keepR k.r ds h
theorem DenL.nil : DenL K H M [] [] := by simp only [DenL]
theorem DenL.cons {d : D} {ds : List D} {v : V} {vs : List V} (a : Den K H M d v) (b : DenL K H M ds vs) : DenL K H M (d :: ds) (v :: vs) := by
  simp only [DenL]; exact ⟨v, vs, rfl, a, b⟩
theorem DenL.length : ∀ {ds : List D} {vs : List V}, DenL K H M ds vs → vs.length = ds.length
  | [], _, h => by simp only [DenL] at h; subst h; rfl
  | d :: ds, _, h => by
    simp only [DenL] at h
    obtain ⟨v, r, rfl, _, y⟩ := h
    simp [DenL.length y]
theorem DenL.get : ∀ {ds : List D} {vs : List V} {i : Nat} {d : D}, DenL K H M ds vs → ds[i]? = some d → ∃ v, vs[i]? = some v ∧ Den K H M d v
  | [], _, _, _, _, e => by simp at e
  | d :: ds, _, 0, _, h, e => by
    simp only [DenL] at h
    obtain ⟨v, r, rfl, x, _⟩ := h
    simp at e; subst e
    exact ⟨v, rfl, x⟩
  | d :: ds, _, i + 1, _, h, e => by
    simp only [DenL] at h
    obtain ⟨v, r, rfl, _, y⟩ := h
    obtain ⟨v', e', x⟩ := DenL.get (i := i) y (by simpa using e)
    exact ⟨v', by simpa using e', x⟩
theorem DenL.get' {ds : List D} {vs : List V} {i : Nat} {v : V} (h : DenL K H M ds vs) (e : vs[i]? = some v) : ∃ d, ds[i]? = some d ∧ Den K H M d v := by
  have hi : i < ds.length := by rw [← h.length]; exact (List.getElem?_eq_some_iff.mp e).1
  obtain ⟨v', e', x⟩ := h.get (i := i) (d := ds[i]) (by simp [hi])
  rw [e] at e'; cases e'
  exact ⟨_, by simp [hi], x⟩
theorem DenL.append : ∀ {ds es : List D} {vs us : List V}, DenL K H M ds vs → DenL K H M es us → DenL K H M (ds ++ es) (vs ++ us)
  | [], _, _, _, h, h' => by simp only [DenL] at h; subst h; simpa using h'
  | d :: ds, _, _, _, h, h' => by
    simp only [DenL] at h
    obtain ⟨v, r, rfl, x, y⟩ := h
    exact DenL.cons x (DenL.append y h')
theorem DenL.split : ∀ {ds es : List D} {vs : List V}, DenL K H M (ds ++ es) vs → ∃ us ws, vs = us ++ ws ∧ DenL K H M ds us ∧ DenL K H M es ws
  | [], _, vs, h => ⟨[], vs, rfl, DenL.nil, h⟩
  | d :: ds, _, _, h => by
    rw [List.cons_append] at h
    simp only [DenL] at h
    obtain ⟨v, r, rfl, x, y⟩ := h
    obtain ⟨us, ws, rfl, p, q⟩ := DenL.split y
    exact ⟨v :: us, ws, rfl, DenL.cons x p, q⟩
theorem DenL.take {ds : List D} {vs : List V} (n : Nat) (h : DenL K H M ds vs) : DenL K H M (ds.take n) (vs.take n) := by
  rw [← List.take_append_drop n ds] at h
  obtain ⟨us, ws, e, p, q⟩ := DenL.split h
  have l := p.length
  by_cases hn : n ≤ ds.length
  · have e2 : us.length = n := by rw [l, List.length_take]; omega
    rw [e, ← e2, List.take_left']
    · rw [e2]; exact p
    · rfl
  · have e3 : ds.drop n = [] := List.drop_eq_nil_of_le (by omega)
    rw [e3] at q
    simp only [DenL] at q
    subst q
    rw [List.append_nil] at e
    subst e
    rw [List.length_take] at l
    rw [List.take_of_length_le (by omega : ds.length ≤ n)] at p ⊢
    rw [List.take_of_length_le (by omega)]
    exact p
theorem DenL.drop {ds : List D} {vs : List V} (n : Nat) (h : DenL K H M ds vs) : DenL K H M (ds.drop n) (vs.drop n) := by
  have h0 := h
  rw [← List.take_append_drop n ds] at h
  obtain ⟨us, ws, e, p, q⟩ := DenL.split h
  have l := p.length
  by_cases hn : n ≤ ds.length
  · have e2 : us.length = n := by rw [l, List.length_take]; omega
    rw [e, ← e2, List.drop_left']
    · rw [e2]; exact q
    · rfl
  · rw [List.drop_eq_nil_of_le (by omega), List.drop_eq_nil_of_le (by rw [h0.length]; omega)]
    exact DenL.nil
theorem DenL.reverse : ∀ {ds : List D} {vs : List V}, DenL K H M ds vs → DenL K H M ds.reverse vs.reverse
  | [], _, h => by simp only [DenL] at h; subst h; exact DenL.nil
  | d :: ds, _, h => by
    simp only [DenL] at h
    obtain ⟨v, r, rfl, x, y⟩ := h
    rw [List.reverse_cons, List.reverse_cons]
    exact (DenL.reverse y).append (DenL.cons x DenL.nil)
theorem DenL.set : ∀ {ds : List D} {vs : List V} {i : Nat} {d : D} {v : V}, DenL K H M ds vs → Den K H M d v → DenL K H M (ds.set i d) (vs.set i v)
  | [], _, _, _, _, h, _ => by simp only [DenL] at h; subst h; exact DenL.nil
  | d :: ds, _, 0, _, _, h, q => by
    simp only [DenL] at h
    obtain ⟨v, r, rfl, x, y⟩ := h
    exact DenL.cons q y
  | d :: ds, _, i + 1, _, _, h, q => by
    simp only [DenL] at h
    obtain ⟨v, r, rfl, x, y⟩ := h
    exact DenL.cons x (DenL.set y q)
theorem DenL.of_get : ∀ {ds : List D} {vs : List V}, vs.length = ds.length → (∀ (i : Nat) (d : D) (v : V), ds[i]? = some d → vs[i]? = some v → Den K H M d v) → DenL K H M ds vs
  | [], [], _, _ => DenL.nil
  | d :: ds, v :: vs, hl, h => DenL.cons (h 0 d v rfl rfl) (DenL.of_get (by simpa using hl) fun i d' v' a b => h (i + 1) d' v' (by simpa using a) (by simpa using b))
  | [], _ :: _, hl, _ => by simp at hl
  | _ :: _, [], hl, _ => by simp at hl

/-- the attributes of an instance -/
def FsR (K : PySem.W.Frag) (H : Hp) (M : Mp) : List (Str × D) → List (Str × V) → Prop
  | [], gs => gs = []
  | (f, d) :: fs, gs => ∃ v r, gs = (f, v) :: r ∧ Den K H M d v ∧ FsR K H M fs r
theorem FsR.keepR (k : KeepR H M H' M') : ∀ {fs : List (Str × D)} {gs : List (Str × V)}, FsR K H M fs gs → FsR K H' M' fs gs
  | [], _, h => h
  | (f, d) :: fs, _, h => by
    obtain ⟨v, r, rfl, x, y⟩ := h
    exact ⟨v, r, rfl, Den.keepR k d x, FsR.keepR k y⟩
theorem FsR.keep (k : Keep H M H' M') {fs : List (Str × D)} {gs : List (Str × V)} (h : FsR K H M fs gs) : FsR K H' M' fs gs := FsR.keepR k.r h
def kstV (k : List Int) : List Key × V := (k.map Sum.inl, V.bl true)
/-- a range object of step 1, at a -/
def rngO (a : Addr) (lo hi : Int) : HO := .ext fun h => ∃ t u v, h.get? a = some { cls := .type "range", data := .fields #[.int lo t, .int hi u, .int 1 v] }
theorem ex_heap : ∀ n : Nat, ∃ h : Heap, h.objs.size = n
  | 0 => ⟨{ objs := #[] }, rfl⟩
  | n + 1 => by
    obtain ⟨h, e⟩ := ex_heap n
    exact ⟨h.push { cls := .none, data := .fields #[] }, by rw [Heap.size_push, e]⟩
theorem rng_code {a c : Addr} {lo hi : Int} {q : Str} (h : rngO a lo hi = LamX.CodeO c q) (e : a = c) : False := by
  subst e
  unfold rngO LamX.CodeO at h
  injection h with h
  obtain ⟨g, eg⟩ := ex_heap a
  have hg : (g.push { cls := .type "range", data := .fields #[.int lo 0, .int hi 0, .int 1 0] }).get? a = some { cls := .type "range", data := .fields #[.int lo 0, .int hi 0, .int 1 0] } := by
    rw [← eg]; exact Heap.get?_push_size _ rfl
  have z := congrFun h (g.push { cls := .type "range", data := .fields #[.int lo 0, .int hi 0, .int 1 0] })
  have z2 := z.mp ⟨0, 0, 0, hg⟩
  obtain ⟨oc, vs, t, e1, e2, e3⟩ := z2
  rw [hg] at e1
  cases e1
  cases e2
  simp at e3
/-- an object that may be changed, at a -/
def ObD (K : PySem.W.Frag) (H : Hp) (M : Mp) (a : Addr) : OD → Prop
  | .lst ds => ∃ vs, H a = some (.lst vs) ∧ DenL K H M ds vs
  | .ins cl fs => ∃ dx gs, H a = some (.ins cl dx gs) ∧ H dx = some (.own a) ∧ M dx = none ∧ FsR K H M fs gs
  | .priv => ∃ vs, H a = some (.lst vs)
  | .kst ks => H a = some (.dT (ks.map kstV))
  | .rng lo hi => H a = some (rngO a lo hi)
def Abs (K : PySem.W.Frag) (H : Hp) (M : Mp) : Prop := ∀ a o, M a = some o → ObD K H M a o
theorem ObD.there {a : Addr} {o : OD} (h : ObD K H M a o) : ∃ u, H a = some u ∧ Mut (some u) := by
  cases o with
  | lst ds => obtain ⟨vs, e, _⟩ := h; exact ⟨_, e, trivial⟩
  | ins cl fs => obtain ⟨dx, gs, e, _⟩ := h; exact ⟨_, e, trivial⟩
  | priv => obtain ⟨vs, e⟩ := h; exact ⟨_, e, trivial⟩
  | kst ks => exact ⟨_, h, trivial⟩
  | rng lo hi => exact ⟨_, h, trivial⟩
theorem Abs.free (h : Abs K H M) {p : Addr} (hp : H p = none) : M p = none := by
  cases e : M p with
  | none => rfl
  | some o => obtain ⟨u, e', _⟩ := (h p o e).there; rw [hp] at e'; cases e'
theorem Keep.sub (h : Sub M' M) : Keep H M H M' := fun a o e n _ => ⟨by
  cases q : M' a with
  | none => exact .inl rfl
  | some u => exact .inr (h a u q).symm, e⟩
theorem Abs.sub (h : Abs K H M) (s : Sub M' M) : Abs K H M' := fun a o e => by
  have q := h a o (s a o e)
  cases o with
  | lst ds => obtain ⟨vs, e, l⟩ := q; exact ⟨vs, e, l.keep (Keep.sub s)⟩
  | ins cl fs => obtain ⟨dx, gs, e, w, n, l⟩ := q; exact ⟨dx, gs, e, w, s.free n, l.keep (Keep.sub s)⟩
  | priv => exact q
  | kst ks => exact q
  | rng lo hi => exact q
/-- a new object that is fixed (a tuple, a fixed list) -/
theorem Keep.new {p : Addr} {o : HO} (a : Abs K H M) (hp : H p = none) : Keep H M (upd H p o) M := fun b u e n _ => by
  refine ⟨.inr rfl, ?_⟩
  rw [upd_ne (ne_of_none e hp)]; exact e
theorem ObD.keepR {a : Addr} {o : OD} (k : KeepR H M H' M') (hH : H' a = H a) (h : ObD K H M a o) : ObD K H' M' a o := by
  cases o with
  | lst ds => obtain ⟨vs, e, l⟩ := h; exact ⟨vs, hH.trans e, DenL.keepR k ds l⟩
  | ins cl fs =>
    obtain ⟨dx, gs, e, w, n, l⟩ := h
    obtain ⟨n', w'⟩ := k dx _ w n fun _ z => nomatch z
    exact ⟨dx, gs, hH.trans e, w', n', l.keepR k⟩
  | priv => obtain ⟨vs, e⟩ := h; exact ⟨vs, hH.trans e⟩
  | kst ks => exact hH.trans h
  | rng lo hi => exact hH.trans h
theorem ObD.keep {a : Addr} {o : OD} (k : Keep H M H' M') (hH : H' a = H a) (h : ObD K H M a o) : ObD K H' M' a o := h.keepR k.r hH
theorem Abs.new {p : Addr} {o : HO} (a : Abs K H M) (hp : H p = none) : Abs K (upd H p o) M := fun b u e => by
  have q := a b u e
  obtain ⟨w, hw, _⟩ := q.there
  exact q.keep (Keep.new a hp) (upd_ne (ne_of_none hw hp))
/-- a new object that may be changed -/
theorem Keep.mut {p : Addr} {o : HO} {u : OD} (a : Abs K H M) (hp : H p = none) : Keep H M (upd H p o) (put M p u) := fun b w e n _ => by
  have ne := ne_of_none e hp
  exact ⟨.inr (put_ne ne), by rw [upd_ne ne]; exact e⟩
/-- one object's telling is put in: the others' stand -/
theorem Abs.at {p : Addr} {u : OD} (a : Abs K H M) (k : Keep H M H' (DL.put M p u)) (hH : ∀ b, b ≠ p → (M b).isSome → H' b = H b) (q : ObD K H' (DL.put M p u) p u) : Abs K H' (DL.put M p u) := fun b o e => by
  by_cases hb : b = p
  · subst hb
    rw [put_same] at e; cases e
    exact q
  · rw [put_ne hb] at e
    exact (a b o e).keep k (hH b hb (by rw [e]; rfl))
/-- a new list -/
theorem Abs.lst {p : Addr} {vs : List V} {ds : List D} (a : Abs K H M) (hp : H p = none) (l : DenL K H M ds vs) : Abs K (upd H p (.lst vs)) (DL.put M p (.lst ds)) :=
  a.at (Keep.mut a hp) (fun b hb _ => upd_ne hb) ⟨vs, upd_same, l.keep (Keep.mut a hp)⟩
theorem Abs.privs {p : Addr} {vs : List V} (a : Abs K H M) (hp : H p = none) : Abs K (upd H p (.lst vs)) (DL.put M p .priv) :=
  a.at (Keep.mut a hp) (fun b hb _ => upd_ne hb) ⟨vs, upd_same⟩
/-- a list that may be changed is changed -/
theorem Keep.write {p : Addr} {o : HO} {u w : OD} (hM : M p = some w) (hw : w ≠ .priv) : Keep H M (upd H p o) (DL.put M p u) := fun b x e n _ => by
  have ne : b ≠ p := fun z => by
    rw [z, hM] at n
    rcases n with n | n
    · cases n
    · exact hw (Option.some.inj n)
  exact ⟨.inr (put_ne ne), by rw [upd_ne ne]; exact e⟩
theorem Abs.write {p : Addr} {vs : List V} {ds : List D} {w : OD} (a : Abs K H M) (hM : M p = some w) (hw : w ≠ .priv) (l : DenL K H M ds vs) : Abs K (upd H p (.lst vs)) (DL.put M p (.lst ds)) :=
  a.at (Keep.write hM hw) (fun b hb _ => upd_ne hb) ⟨vs, upd_same, l.keep (Keep.write hM hw)⟩
/-- it is fixed from now on -/
theorem Keep.fix {p : Addr} : Keep H M H (DL.del M p) := fun b x e n _ => by
  refine ⟨?_, e⟩
  by_cases hb : b = p
  · rw [hb, del_same]; exact .inl rfl
  · exact .inr (del_ne hb)
theorem Sub.of_del {p : Addr} : Sub (DL.del M p) M := fun b o e => by
  by_cases hb : b = p
  · rw [hb, del_same] at e; cases e
  · rw [del_ne hb] at e; exact e
theorem Abs.fix {p : Addr} (a : Abs K H M) : Abs K H (DL.del M p) := a.sub Sub.of_del
theorem Den.fix {p : Addr} {ds : List D} (a : Abs K H M) (hM : M p = some (.lst ds)) : Den K H (DL.del M p) (.lst ds) (.ref p) := by
  obtain ⟨vs, e, l⟩ := a p _ hM
  simp only [Den]
  exact ⟨p, vs, rfl, ⟨del_same, e⟩, l.keep Keep.fix⟩

/-- all but tables stays -/
theorem Keep.ext (e : ∀ b o, H b = some o → (∀ ps, o ≠ .tbl ps) → H' b = some o) : Keep H M H' M := fun a o h _ nt => ⟨.inr rfl, e a o h nt⟩
theorem Abs.ext (a : Abs K H M) (e : ∀ b o, H b = some o → (∀ ps, o ≠ .tbl ps) → H' b = some o) : Abs K H' M := fun b o q => by
  have z := a b o q
  obtain ⟨u, hu, mu⟩ := z.there
  refine z.keep (Keep.ext e) ?_
  rw [hu]
  exact e b u hu fun ps x => by rw [x] at mu; exact mu
/-! ### the names -/
abbrev Sd := List (Option D)
def EnvR (K : PySem.W.Frag) (H : Hp) (M : Mp) (τ : Sd) (σ : L2.St) : Prop := τ.length = σ.length ∧ ∀ (i : Nat) (d : D), τ[i]? = some (some d) → ∃ v, σ[i]? = some (some v) ∧ Den K H M d v
theorem EnvR.keepR {τ : Sd} {σ : L2.St} (k : KeepR H M H' M') (h : EnvR K H M τ σ) : EnvR K H' M' τ σ := ⟨h.1, fun i d e => let ⟨v, e', q⟩ := h.2 i d e; ⟨v, e', Den.keepR k d q⟩⟩
theorem EnvR.keep {τ : Sd} {σ : L2.St} (k : Keep H M H' M') (h : EnvR K H M τ σ) : EnvR K H' M' τ σ := h.keepR k.r
theorem EnvR.set {τ : Sd} {σ : L2.St} {i : Nat} {d : D} {v : V} (h : EnvR K H M τ σ) (q : Den K H M d v) : EnvR K H M (τ.set i (some d)) (σ.set i (some v)) := by
  refine ⟨by simp [h.1], fun j e hj => ?_⟩
  by_cases hi : i = j
  · subst hi
    by_cases hl : i < τ.length
    · rw [List.getElem?_set_self hl] at hj; cases hj
      exact ⟨v, List.getElem?_set_self (by rw [← h.1]; exact hl), q⟩
    · rw [List.getElem?_eq_none (by simpa using hl)] at hj; cases hj
  · rw [List.getElem?_set_ne hi] at hj ⊢
    exact h.2 j e hj
theorem EnvR.unset {τ : Sd} {σ : L2.St} {i : Nat} (h : EnvR K H M τ σ) : EnvR K H M (τ.set i none) (σ.set i none) := by
  refine ⟨by simp [h.1], fun j e hj => ?_⟩
  by_cases hi : i = j
  · subst hi
    by_cases hl : i < τ.length
    · rw [List.getElem?_set_self hl] at hj; cases hj
    · rw [List.getElem?_eq_none (by simpa using hl)] at hj; cases hj
  · rw [List.getElem?_set_ne hi] at hj ⊢
    exact h.2 j e hj
/-- fewer names are known -/
def Less (τ' τ : Sd) : Prop := τ'.length = τ.length ∧ ∀ (i : Nat) (d : D), τ'[i]? = some (some d) → τ[i]? = some (some d)
theorem Less.refl {τ : Sd} : Less τ τ := ⟨rfl, fun _ _ h => h⟩
theorem EnvR.less {τ τ' : Sd} {σ : L2.St} (h : EnvR K H M τ σ) (l : Less τ' τ) : EnvR K H M τ' σ := ⟨l.1.trans h.1, fun i d e => h.2 i d (l.2 i d e)⟩
def startD (N : List Str) (ds : List D) : Sd := ds.map some ++ List.replicate (N.length - ds.length) none
theorem EnvR.start {N : List Str} {ds : List D} {vs : List V} (l : DenL K H M ds vs) : EnvR K H M (startD N ds) (L2.start N vs) := by
  have hl := l.length
  refine ⟨by simp [startD, L2.start, hl], fun i d e => ?_⟩
  unfold startD at e
  by_cases hi : i < ds.length
  · rw [List.getElem?_append_left (by simpa using hi), List.getElem?_map] at e
    cases q : ds[i]? with
    | none => rw [q] at e; cases e
    | some d' =>
      rw [q] at e; cases e
      obtain ⟨v, e', x⟩ := l.get q
      refine ⟨v, ?_, x⟩
      unfold L2.start
      rw [List.getElem?_append_left (by rw [List.length_map, hl]; exact hi), List.getElem?_map, e']
      rfl
  · rw [List.getElem?_append_right (by simpa using hi), List.getElem?_replicate] at e
    split at e <;> cases e
end DL

/-! Judgements over data. -/
namespace DL
open PySem PySem.Spec PyProof.Rows L2

abbrev DFs := List (Str × D)
abbrev DK := D → Mp → Prop
/-- what is wanted of an exception: its class, its fields, what changed -/
abbrev DX := Value → DFs → Mp → Prop
abbrev DE := Sd → Mp → DK → DX → Prop
abbrev DT := Sd → Mp → (Bool → Mp → Prop) → DX → Prop
abbrev DA := Sd → Mp → (List D → Mp → Prop) → DX → Prop
structure DEnds where
  nx : Sd → Mp → Prop
  rt : DK
  bk : Sd → Mp → Prop := fun _ _ => False
  ct : Sd → Mp → Prop := fun _ _ => False
  ex : Value → DFs → Sd → Mp → Prop
abbrev DS := DEnds → Sd → Mp → Prop

def MonoE (t : DE) : Prop := ∀ (τ : Sd) (M : Mp) (Q Q' : DK) (E E' : DX), (∀ d M', Q d M' → Q' d M') → (∀ c fs M', E c fs M' → E' c fs M') → t τ M Q E → t τ M Q' E'
def MonoT (t : DT) : Prop := ∀ (τ : Sd) (M : Mp) (Q Q' : Bool → Mp → Prop) (E E' : DX), (∀ d M', Q d M' → Q' d M') → (∀ c fs M', E c fs M' → E' c fs M') → t τ M Q E → t τ M Q' E'
def MonoA (t : DA) : Prop := ∀ (τ : Sd) (M : Mp) (Q Q' : List D → Mp → Prop) (E E' : DX), (∀ d M', Q d M' → Q' d M') → (∀ c fs M', E c fs M' → E' c fs M') → t τ M Q E → t τ M Q' E'
structure DEnds.Le (a b : DEnds) : Prop where
  nx : ∀ τ M, a.nx τ M → b.nx τ M
  rt : ∀ d M, a.rt d M → b.rt d M
  bk : ∀ τ M, a.bk τ M → b.bk τ M
  ct : ∀ τ M, a.ct τ M → b.ct τ M
  ex : ∀ c fs τ M, a.ex c fs τ M → b.ex c fs τ M
def MonoS (t : DS) : Prop := ∀ (a b : DEnds) (τ : Sd) (M : Mp), a.Le b → t a τ M → t b τ M

/-- an exception's own dict -/
def XDen (K : PySem.W.Frag) (H : Hp) (M : Mp) (od : Option Addr) (fs : DFs) : Prop :=
  (od = none ∧ fs = []) ∨ ∃ d gs, od = some d ∧ H d = some (.xd gs) ∧ M d = none ∧ FsR K H M fs gs ∧ fs ≠ []

/-- a context: a hand context, the tables, what changed when the def was entered, what is wanted of exceptions; the level -/
structure DC where
  X : Cx
  T : List (Addr × Str)
  H0 : Hp
  M0 : Mp
  W : Value → DFs → Sd → Mp → Prop
  J : Hp → Mp → Prop
  Jk : ∀ (H : Hp) (M : Mp) (H' : Hp) (M' : Mp), J H M → Keep H M H' M' → J H' M'
  lv : Nat
  dp : X.A.depth + 3 * lv + 5 < recursionLimit
  un : X.A.units + 16 * lv + 200 < cLine
  gb : Bool
  gd : gb = true → X.A.guards = some []
  nd : X.N.Nodup
  po : PassesOwn (model X.prog X.w) X.A X.env X.xe
  tk : Takes X fun cls od σ H => ∃ τ M fs, EnvR X.K H M τ σ ∧ (Keep H0 M0 H M ∧ Abs X.K H M ∧ LamX.Tabs T H) ∧ XDen X.K H M od fs ∧ W cls fs τ M

structure SR (C : DC) (H : Hp) (M : Mp) : Prop where
  keep : Keep C.H0 C.M0 H M
  abs : Abs C.X.K H M
  tab : LamX.Tabs C.T H
  cod : C.J H M
structure GoK (K : PySem.W.Frag) (T : List (Addr × Str)) (H : Hp) (M : Mp) (H' : Hp) (M' : Mp) : Prop where
  keep : Keep H M H' M'
  abs : Abs K H' M'
  tab : LamX.Tabs T H'
abbrev Go (C : DC) (H : Hp) (M : Mp) (H' : Hp) (M' : Mp) : Prop := GoK C.X.K C.T H M H' M'
section
variable {C : DC} {H H' H2 : Hp} {M M' M2 : Mp}
theorem SR.go (r : SR C H M) (g : Go C H M H' M') : SR C H' M' := ⟨r.keep.trans g.keep, g.abs, g.tab, C.Jk _ _ _ _ r.cod g.keep⟩
theorem Go.refl (r : SR C H M) : Go C H M H M := ⟨Keep.refl, r.abs, r.tab⟩
theorem Go.trans (a : Go C H M H' M') (b : Go C H' M' H2 M2) : Go C H M H2 M2 := ⟨a.keep.trans b.keep, b.abs, b.tab⟩
theorem Go.sub (a : Go C H M H' M') (s : Sub M2 M') : Go C H M H' M2 := ⟨a.keep.trans (Keep.sub s), a.abs.sub s, a.tab⟩
theorem TabsUpd {T : List (Addr × Str)} {p : Addr} {o : HO} (t : LamX.Tabs T H) (hp : H p = none ∨ ∃ vs, H p = some (.lst vs)) (ho : ∀ ps, o ≠ .tbl ps) : LamX.Tabs T (upd H p o) := fun q hq => by
  obtain ⟨ps, h1, h2, h3⟩ := t q hq
  have ne : ∀ b u, H b = some u → (∀ vs, u ≠ .lst vs) → b ≠ p := fun b u e n z => by
    rw [z] at e
    rcases hp with h | ⟨vs, h⟩
    · rw [h] at e; cases e
    · rw [h] at e; cases e; exact n vs rfl
  refine ⟨ps, by rw [upd_ne (ne _ _ h1 fun _ z => nomatch z)]; exact h1, h2, fun pos cv hc => ?_⟩
  obtain ⟨c, e1, e2⟩ := h3 pos cv hc
  exact ⟨c, e1, by rw [upd_ne (ne _ _ e2 fun vs z => by unfold LamX.CodeO at z; cases z)]; exact e2⟩
theorem Go.new {p : Addr} {o : HO} (r : SR C H M) (hp : H p = none) (ho : ∀ ps, o ≠ .tbl ps) : Go C H M (upd H p o) M := ⟨Keep.new r.abs hp, r.abs.new hp, TabsUpd r.tab (.inl hp) ho⟩
theorem SR.at (a : Abs C.X.K H M) (t : LamX.Tabs C.T H) : Go C H M H M := ⟨Keep.refl, a, t⟩
end

/-- an expression's end -/
def EPD (C : DC) (pins : List (Addr × Obj)) (σ : L2.St) (H : Hp) (M : Mp) (Q : DK) (u : Value) (s' : Shared) : Prop :=
  ∃ v H' d M', Inv C.X pins σ H' s' ∧ RelV v u ∧ Go C H M H' M' ∧ Den C.X.K H' M' d v ∧ Q d M'
def TPD (C : DC) (pins : List (Addr × Obj)) (σ : L2.St) (H : Hp) (M : Mp) (Q : Bool → Mp → Prop) (b : Bool) (s' : Shared) : Prop :=
  ∃ H' M', Inv C.X pins σ H' s' ∧ Go C H M H' M' ∧ Q b M'
def APD (C : DC) (pins : List (Addr × Obj)) (σ : L2.St) (H : Hp) (M : Mp) (Q : List D → Mp → Prop) (us : List Value) (s' : Shared) : Prop :=
  ∃ vs H' ds M', Inv C.X pins σ H' s' ∧ Vals vs us ∧ Go C H M H' M' ∧ DenL C.X.K H' M' ds vs ∧ Q ds M'
abbrev xw (C : DC) (τ : Sd) : DX := fun c fs M' => C.W c fs τ M'
structure DPE (C : DC) (e : Expr) (t : DE) : Prop where
  mono : MonoE t
  go : ∀ (pins : List (Addr × Obj)) (s : Shared) (σ : L2.St) (H : Hp) (τ : Sd) (M : Mp) (Q : DK), Inv C.X pins σ H s → EnvR C.X.K H M τ σ → SR C H M → t τ M Q (xw C τ) →
    wpAny (model C.X.prog C.X.w) C.X.A (eval e C.X.env) (EPD C pins σ H M Q) C.X.xe s
structure DPT (C : DC) (e : Expr) (t : DT) : Prop where
  mono : MonoT t
  go : ∀ (whole : Sem Value) (pins : List (Addr × Obj)) (s : Shared) (σ : L2.St) (H : Hp) (τ : Sd) (M : Mp) (Q : Bool → Mp → Prop), (whole = eval e C.X.env ∨ ∃ op es pos, e = .BoolOp op es pos) → Inv C.X pins σ H s → EnvR C.X.K H M τ σ → SR C H M → t τ M Q (xw C τ) →
    wpAny (model C.X.prog C.X.w) C.X.A (isTrue e C.X.env whole) (TPD C pins σ H M Q) C.X.xe s
structure DPA (C : DC) (es : List Expr) (t : DA) : Prop where
  mono : MonoA t
  go : ∀ (pos : Pos) (pins : List (Addr × Obj)) (s : Shared) (σ : L2.St) (H : Hp) (τ : Sd) (M : Mp) (Q : List D → Mp → Prop), Inv C.X pins σ H s → EnvR C.X.K H M τ σ → SR C H M → t τ M Q (xw C τ) →
    wpAny (model C.X.prog C.X.w) C.X.A (spliced (backTo pos (starEach es C.X.env))) (APD C pins σ H M Q) C.X.xe s
def SPD (C : DC) (pins : List (Addr × Obj)) (H : Hp) (M : Mp) (D : DEnds) (f : Flow) (s' : Shared) : Prop :=
  match f with
  | .next => ∃ σ' H' τ' M', Inv C.X pins σ' H' s' ∧ EnvR C.X.K H' M' τ' σ' ∧ Go C H M H' M' ∧ D.nx τ' M'
  | .brk => ∃ σ' H' τ' M', Inv C.X pins σ' H' s' ∧ EnvR C.X.K H' M' τ' σ' ∧ Go C H M H' M' ∧ D.bk τ' M'
  | .cont => ∃ σ' H' τ' M', Inv C.X pins σ' H' s' ∧ EnvR C.X.K H' M' τ' σ' ∧ Go C H M H' M' ∧ D.ct τ' M'
  | .ret u => ∃ v σ' H' d M', Inv C.X pins σ' H' s' ∧ RelV v u ∧ Go C H M H' M' ∧ Den C.X.K H' M' d v ∧ D.rt d M'
structure DPS (C : DC) (st : Stmt) (t : DS) : Prop where
  mono : MonoS t
  go : ∀ (pins : List (Addr × Obj)) (s : Shared) (σ : L2.St) (H : Hp) (τ : Sd) (M : Mp) (D : DEnds), Inv C.X pins σ H s → EnvR C.X.K H M τ σ → SR C H M → t { D with ex := C.W } τ M →
    wpAny (model C.X.prog C.X.w) C.X.A (exec st C.X.env) (SPD C pins H M D) C.X.xe s
structure DPSs (C : DC) (st : List Stmt) (t : DS) : Prop where
  mono : MonoS t
  go : ∀ (pins : List (Addr × Obj)) (s : Shared) (σ : L2.St) (H : Hp) (τ : Sd) (M : Mp) (D : DEnds), Inv C.X pins σ H s → EnvR C.X.K H M τ σ → SR C H M → t { D with ex := C.W } τ M →
    wpAny (model C.X.prog C.X.w) C.X.A (execs st C.X.env) (SPD C pins H M D) C.X.xe s

/-! ### to and from the hand layer -/
def liftE (C : DC) (t : DE) : TE := fun σ H Q => ∃ τ M, EnvR C.X.K H M τ σ ∧ SR C H M ∧ t τ M (fun d M' => ∀ v H', Go C H M H' M' → Den C.X.K H' M' d v → Q v H') (xw C τ)
def liftT (C : DC) (t : DT) : TT := fun σ H Q => ∃ τ M, EnvR C.X.K H M τ σ ∧ SR C H M ∧ t τ M (fun b M' => ∀ H', Go C H M H' M' → Q b H') (xw C τ)
section
variable {C : DC} {e : Expr} {es : List Expr} {st : Stmt} {sts : List Stmt}
theorem DPE.pe {t : DE} (h : DPE C e t) : PE C.X e (liftE C t) := ⟨fun pins s σ H Q I ⟨τ, M, er, sr, q⟩ =>
  thn (h.go pins s σ H τ M _ I er sr q) fun u s' ⟨v, H', d, M', I', r, g, dn, q'⟩ => ⟨v, H', I', r, q' v H' g dn⟩⟩
theorem DPE.of {t : DE} {t' : TE} (m : MonoE t) (h : PE C.X e t') (hi : ∀ σ H Q, liftE C t σ H Q → t' σ H Q) : DPE C e t := ⟨m, fun pins s σ H τ M Q I er sr q =>
  thn (h.run pins s σ H (fun v H' => ∃ d M', Go C H M H' M' ∧ Den C.X.K H' M' d v ∧ Q d M') I (hi _ _ _ ⟨τ, M, er, sr, m _ _ _ _ _ _ (fun d M' hq v H' g dn => ⟨d, M', g, dn, hq⟩) (fun _ _ _ z => z) q⟩))
    fun u s' ⟨v, H', I', r, d, M', g, dn, q'⟩ => ⟨v, H', d, M', I', r, g, dn, q'⟩⟩
theorem DPT.pt {t : DT} (h : DPT C e t) : PT C.X e (liftT C t) := ⟨fun pins s σ H Q I ⟨τ, M, er, sr, q⟩ =>
  thn (h.go _ pins s σ H τ M _ (.inl rfl) I er sr q) fun b s' ⟨H', M', I', g, q'⟩ => ⟨H', I', q' H' g⟩⟩
def liftS (C : DC) (t : DS) : TS := fun D σ H => ∃ τ M, EnvR C.X.K H M τ σ ∧ SR C H M ∧
  t { nx := fun τ' M' => ∀ σ' H', EnvR C.X.K H' M' τ' σ' → Go C H M H' M' → D.nx σ' H', rt := fun d M' => ∀ v H', Go C H M H' M' → Den C.X.K H' M' d v → D.rt v H',
      bk := fun τ' M' => ∀ σ' H', EnvR C.X.K H' M' τ' σ' → Go C H M H' M' → D.bk σ' H', ct := fun τ' M' => ∀ σ' H', EnvR C.X.K H' M' τ' σ' → Go C H M H' M' → D.ct σ' H', ex := C.W } τ M
theorem spd_sp {pins : List (Addr × Obj)} {H : Hp} {M : Mp} {D : Ends} {D' : DEnds} {f : Flow} {s' : Shared}
    (hn : ∀ τ' M', D'.nx τ' M' → ∀ σ' H', EnvR C.X.K H' M' τ' σ' → Go C H M H' M' → D.nx σ' H') (hr : ∀ d M', D'.rt d M' → ∀ v H', Go C H M H' M' → Den C.X.K H' M' d v → D.rt v H')
    (hb : ∀ τ' M', D'.bk τ' M' → ∀ σ' H', EnvR C.X.K H' M' τ' σ' → Go C H M H' M' → D.bk σ' H') (hc : ∀ τ' M', D'.ct τ' M' → ∀ σ' H', EnvR C.X.K H' M' τ' σ' → Go C H M H' M' → D.ct σ' H')
    (h : SPD C pins H M D' f s') : SP C.X pins D f s' := by
  cases f with
  | next => obtain ⟨σ', H', τ', M', I, er, g, q⟩ := h; exact ⟨σ', H', I, hn _ _ q _ _ er g⟩
  | brk => obtain ⟨σ', H', τ', M', I, er, g, q⟩ := h; exact ⟨σ', H', I, hb _ _ q _ _ er g⟩
  | cont => obtain ⟨σ', H', τ', M', I, er, g, q⟩ := h; exact ⟨σ', H', I, hc _ _ q _ _ er g⟩
  | ret u => obtain ⟨v, σ', H', d, M', I, r, g, dn, q⟩ := h; exact ⟨v, σ', H', I, r, hr _ _ q _ _ g dn⟩
theorem DPSs.pss {t : DS} (h : DPSs C sts t) : PSs C.X sts (liftS C t) := ⟨fun pins s σ H D I ⟨τ, M, er, sr, q⟩ =>
  thn (h.go pins s σ H τ M { nx := fun τ' M' => ∀ σ' H', EnvR C.X.K H' M' τ' σ' → Go C H M H' M' → D.nx σ' H', rt := fun d M' => ∀ v H', Go C H M H' M' → Den C.X.K H' M' d v → D.rt v H', bk := fun τ' M' => ∀ σ' H', EnvR C.X.K H' M' τ' σ' → Go C H M H' M' → D.bk σ' H', ct := fun τ' M' => ∀ σ' H', EnvR C.X.K H' M' τ' σ' → Go C H M H' M' → D.ct σ' H', ex := C.W } I er sr q) fun f s' q' => spd_sp (fun _ _ z => z) (fun _ _ z => z) (fun _ _ z => z) (fun _ _ z => z) q'⟩
theorem DPS.ps {t : DS} (h : DPS C st t) : PS C.X st (liftS C t) := ⟨fun pins s σ H D I ⟨τ, M, er, sr, q⟩ =>
  thn (h.go pins s σ H τ M { nx := fun τ' M' => ∀ σ' H', EnvR C.X.K H' M' τ' σ' → Go C H M H' M' → D.nx σ' H', rt := fun d M' => ∀ v H', Go C H M H' M' → Den C.X.K H' M' d v → D.rt v H', bk := fun τ' M' => ∀ σ' H', EnvR C.X.K H' M' τ' σ' → Go C H M H' M' → D.bk σ' H', ct := fun τ' M' => ∀ σ' H', EnvR C.X.K H' M' τ' σ' → Go C H M H' M' → D.ct σ' H', ex := C.W } I er sr q) fun f s' q' => spd_sp (fun _ _ z => z) (fun _ _ z => z) (fun _ _ z => z) (fun _ _ z => z) q'⟩
/-- the ends, told over the hand layer -/
def endsOf (C : DC) (H : Hp) (M : Mp) (D : DEnds) : Ends where
  nx := fun σ' H' => ∃ τ' M', EnvR C.X.K H' M' τ' σ' ∧ Go C H M H' M' ∧ D.nx τ' M'
  rt := fun v H' => ∃ d M', Go C H M H' M' ∧ Den C.X.K H' M' d v ∧ D.rt d M'
  bk := fun σ' H' => ∃ τ' M', EnvR C.X.K H' M' τ' σ' ∧ Go C H M H' M' ∧ D.bk τ' M'
  ct := fun σ' H' => ∃ τ' M', EnvR C.X.K H' M' τ' σ' ∧ Go C H M H' M' ∧ D.ct τ' M'
theorem sp_spd {pins : List (Addr × Obj)} {H : Hp} {M : Mp} {D : DEnds} {f : Flow} {s' : Shared} (h : SP C.X pins (endsOf C H M D) f s') : SPD C pins H M D f s' := by
  cases f with
  | next => obtain ⟨σ', H', I, τ', M', er, g, q⟩ := h; exact ⟨σ', H', τ', M', I, er, g, q⟩
  | brk => obtain ⟨σ', H', I, τ', M', er, g, q⟩ := h; exact ⟨σ', H', τ', M', I, er, g, q⟩
  | cont => obtain ⟨σ', H', I, τ', M', er, g, q⟩ := h; exact ⟨σ', H', τ', M', I, er, g, q⟩
  | ret u => obtain ⟨v, σ', H', I, r, d, M', g, dn, q⟩ := h; exact ⟨v, σ', H', d, M', I, r, g, dn, q⟩
theorem DPS.of {t : DS} {t' : TS} (m : MonoS t) (h : PS C.X st t') (hi : ∀ (H : Hp) (M : Mp) (τ : Sd) (σ : L2.St) (D : DEnds), EnvR C.X.K H M τ σ → SR C H M → t { D with ex := C.W } τ M → t' (endsOf C H M D) σ H) : DPS C st t :=
  ⟨m, fun pins s σ H τ M D I er sr q => thn (h.run pins s σ H _ I (hi H M τ σ D er sr q)) fun f s' q' => sp_spd q'⟩
/-- the room for a call -/
theorem DC.room (C : DC) {pins : List (Addr × Obj)} {σ : L2.St} {H : Hp} {s : Shared} (I : Inv C.X pins σ H s) (hc : C.X.calm = true) : Room C.lv C.X.A := ⟨I.ok.hd hc, C.dp, C.un⟩
theorem EPD.mk1 {pins : List (Addr × Obj)} {σ : L2.St} {H H' : Hp} {M M' : Mp} {Q : DK} {u : Value} {s' : Shared} {v : V} {d : D} (I : Inv C.X pins σ H' s') (r : RelV v u) (g : Go C H M H' M') (dn : Den C.X.K H' M' d v) (q : Q d M') : EPD C pins σ H M Q u s' :=
  ⟨v, H', d, M', I, r, g, dn, q⟩
end
end DL

/-! Expressions over data. -/
namespace DL
open PySem PySem.Spec PyProof.Rows L2

def ok1 {α : Type} (o : Option α) (k : α → Prop) : Prop := match o with
  | some a => k a
  | none => False
@[simp] theorem ok1_some {α : Type} {a : α} {k : α → Prop} : ok1 (some a) k = k a := of_eq_true (eq_self _)
@[simp] theorem ok1_none {α : Type} {k : α → Prop} : ok1 (none : Option α) k = False := of_eq_true (eq_self _)
theorem ok1_mono {α : Type} {o : Option α} {k k' : α → Prop} (h : ∀ a, k a → k' a) (q : ok1 o k) : ok1 o k' := by
  cases o with
  | none => exact q
  | some a => exact h a q
theorem ok1_ex {α : Type} {o : Option α} {k : α → Prop} (q : ok1 o k) : ∃ a, o = some a ∧ k a := by
  cases o with
  | none => exact q.elim
  | some a => exact ⟨a, rfl, q⟩
theorem ok1_of {α : Type} {o : Option α} {k : α → Prop} {a : α} (e : o = some a) (q : k a) : ok1 o k := by rw [e]; exact q

def getV : Sd → Nat → Option D
  | [], _ => none
  | o :: _, 0 => o
  | _ :: r, i + 1 => getV r i
def setV : Sd → Nat → Option D → Sd
  | [], _, _ => []
  | _ :: r, 0, d => d :: r
  | o :: r, i + 1, d => o :: setV r i d
theorem getV_get : ∀ {τ : Sd} {i : Nat} {d : D}, getV τ i = some d → τ[i]? = some (some d)
  | [], _, _, h => by simp [getV] at h
  | o :: r, 0, d, h => by simp only [getV] at h; simp [h]
  | o :: r, i + 1, d, h => by simpa using getV_get (τ := r) (i := i) (by simpa only [getV] using h)
theorem setV_set : ∀ {τ : Sd} {i : Nat} {d : Option D}, setV τ i d = τ.set i d
  | [], _, _ => rfl
  | o :: r, 0, d => rfl
  | o :: r, i + 1, d => by simp only [setV, List.set_cons_succ]; rw [setV_set]

section
variable {C : DC} {e a b c : Expr} {es : List Expr} {pos : Pos} {ta tb tc : DE}

def dVar (i : Nat) : DE := fun τ M Q _ => ok1 (getV τ i) fun d => Q d M
def dC (d : D) : DE := fun _ M Q _ => Q d M
theorem mono_var {i : Nat} : MonoE (dVar i) := fun τ M Q Q' E E' h _ q => ok1_mono (fun d => h d M) q
theorem mono_c {d : D} : MonoE (dC d) := fun τ M Q Q' E E' h _ q => h d M q
theorem de_var {i : Nat} {x : Str} (hN : C.X.N[i]? = some x) (hv : Vis C.X.env.scope x) (hd : (x == ("__debug__" : Str)) = false := by decide) (hcd : (x == ("__classdict__" : Str)) = false := by decide) : DPE C (.Name x pos) (dVar i) :=
  .of mono_var (pe_var hN hv hd hcd) fun σ H Q ⟨τ, M, er, sr, q⟩ => by
    obtain ⟨d, e, q⟩ := ok1_ex q
    obtain ⟨v, ev, dn⟩ := er.2 i d (getV_get e)
    exact ⟨v, ev, q v H (Go.refl sr) dn⟩
theorem de_c {d : D} {v : V} (h : PE C.X e (tC v)) (hd : ∀ H M, Den C.X.K H M d v) : DPE C e (dC d) := .of mono_c h fun σ H Q ⟨τ, M, er, sr, q⟩ => q v H (Go.refl sr) (hd H M)
theorem de_int {i j} : DPE C (.Constant (.int i) j pos) (dC (.int i)) := de_c pe_int fun _ _ => by simp only [Den]
theorem de_bl {i j} : DPE C (.Constant (.bool i) j pos) (dC (.bl i)) := de_c pe_bl fun _ _ => by simp only [Den]
theorem de_non {j} : DPE C (.Constant .none j pos) (dC .non) := de_c pe_non fun _ _ => by simp only [Den]
theorem de_str {i j} : DPE C (.Constant (.str i) j pos) (dC (.str i)) := de_c pe_str fun _ _ => by simp only [Den]
/-- a constant of the module, a def, a class -/
theorem de_glob {x : Str} {d : D} {v : V} {u : Value} (hg : Gl C.X x) (hm : C.X.mg x = some u) (r : RelV v u) (hd : ∀ H M, Den C.X.K H M d v) (hdb : (x == ("__debug__" : Str)) = false := by decide) : DPE C (.Name x pos) (dC d) := de_c (pe_glob hg hm r hdb) hd

/-! ### argument lists -/
def dNil : DA := fun _ M Q _ => Q [] M
def dCons (t : DE) (r : DA) : DA := fun τ M Q E => t τ M (fun d M1 => r τ M1 (fun ds M2 => Q (d :: ds) M2) E) E
theorem mono_nil : MonoA dNil := fun τ M Q Q' E E' h _ q => h [] M q
theorem mono_cons {t : DE} {r : DA} (m : MonoE t) (n : MonoA r) : MonoA (dCons t r) := fun τ M Q Q' E E' h he q =>
  m τ M _ _ _ _ (fun d M1 => n τ M1 _ _ _ _ (fun ds M2 => h (d :: ds) M2) he) he q
theorem da_nil : DPA C [] dNil := ⟨mono_nil, fun pos pins s σ H τ M Q I er sr q => Calls.spliced_nil ⟨[], H, [], M, I, .nil, Go.refl sr, DenL.nil, q⟩⟩
theorem da_cons {r : DA} (ha : DPE C e ta) (hr : DPA C es r) (hs : starEach (e :: es) C.X.env = (false, eval e C.X.env) :: starEach es C.X.env := by rfl) : DPA C (e :: es) (dCons ta r) := by
  refine ⟨mono_cons ha.mono hr.mono, fun pos pins s σ H τ M Q I er sr q => ?_⟩
  rw [hs]
  show wpAny _ _ (spliced ((false, eval e C.X.env) :: backTo pos (starEach es C.X.env))) _ _ s
  refine Calls.spliced_cons (thn (ha.go pins s σ H τ M _ I er sr q) fun u s1 ⟨x, H1, d, M1, I1, r1, g1, dn1, q1⟩ => ?_)
  refine thn (hr.go pos pins s1 σ H1 τ M1 _ I1 (er.keep g1.keep) (sr.go g1) q1) fun us s2 ⟨xs, H2, ds, M2, I2, r2, g2, dn2, q2⟩ => ?_
  exact ⟨x :: xs, H2, d :: ds, M2, I2, .cons r1 r2, g1.trans g2, DenL.cons (Den.keep g2.keep d dn1) dn2, q2⟩

/-! ### displays -/
def dTup (t : DA) : DE := fun τ M Q E => t τ M (fun ds M1 => ds.length ≤ sizeLine ∧ Q (.tup ds) M1) E
/-- a list that nobody changes -/
def dLst (t : DA) : DE := fun τ M Q E => t τ M (fun ds M1 => ds.length ≤ sizeLine ∧ Q (.lst ds) M1) E
/-- a list that is changed later -/
def dLstM (t : DA) : DE := fun τ M Q E => t τ M (fun ds M1 => ds.length ≤ sizeLine ∧ ∀ p, M1 p = none → Q (.ref p) (put M1 p (.lst ds))) E
theorem mono_tup {t : DA} (m : MonoA t) : MonoE (dTup t) := fun τ M Q Q' E E' h he q => m τ M _ _ _ _ (fun ds M1 z => ⟨z.1, h _ _ z.2⟩) he q
theorem mono_lst {t : DA} (m : MonoA t) : MonoE (dLst t) := fun τ M Q Q' E E' h he q => m τ M _ _ _ _ (fun ds M1 z => ⟨z.1, h _ _ z.2⟩) he q
theorem mono_lstM {t : DA} (m : MonoA t) : MonoE (dLstM t) := fun τ M Q Q' E E' h he q => m τ M _ _ _ _ (fun ds M1 z => ⟨z.1, fun p hp => h _ _ (z.2 p hp)⟩) he q
/-- a new fixed tuple at an address -/
theorem new_tup {H : Hp} {M : Mp} {p : Addr} {xs : List V} {ds : List D} (sr : SR C H M) (hp : H p = none) (l : DenL C.X.K H M ds xs) : Go C H M (upd H p (.tup xs)) M ∧ Den C.X.K (upd H p (.tup xs)) M (.tup ds) (.ref p) := by
  have g : Go C H M (upd H p (.tup xs)) M := Go.new sr hp fun _ z => nomatch z
  refine ⟨g, ?_⟩
  simp only [Den]
  exact ⟨p, xs, rfl, .inl ⟨sr.abs.free hp, .inl upd_same⟩, l.keep g.keep⟩
theorem new_lst {H : Hp} {M : Mp} {p : Addr} {xs : List V} {ds : List D} (sr : SR C H M) (hp : H p = none) (l : DenL C.X.K H M ds xs) : Go C H M (upd H p (.lst xs)) M ∧ Den C.X.K (upd H p (.lst xs)) M (.lst ds) (.ref p) := by
  have g : Go C H M (upd H p (.lst xs)) M := Go.new sr hp fun _ z => nomatch z
  refine ⟨g, ?_⟩
  simp only [Den]
  exact ⟨p, xs, rfl, ⟨sr.abs.free hp, upd_same⟩, l.keep g.keep⟩
theorem new_lstM {H : Hp} {M : Mp} {p : Addr} {xs : List V} {ds : List D} (sr : SR C H M) (hp : H p = none) (l : DenL C.X.K H M ds xs) : Go C H M (upd H p (.lst xs)) (put M p (.lst ds)) ∧ Den C.X.K (upd H p (.lst xs)) (put M p (.lst ds)) (.ref p) (.ref p) := by
  refine ⟨⟨Keep.mut sr.abs hp, sr.abs.lst hp l, TabsUpd sr.tab (.inl hp) fun _ z => nomatch z⟩, ?_⟩
  simp only [Den]
theorem de_tup {t : DA} {k} (h : DPA C es t) : DPE C (.Tuple es k pos) (dTup t) := by
  refine ⟨mono_tup h.mono, fun pins s σ H τ M Q I er sr q => ?_⟩
  refine wpAny_Tuple_spliced (thn (h.go pos pins s σ H τ M _ I er sr q) fun us s1 ⟨xs, H1, ds, M1, I1, r, g, l, z, q⟩ => ⟨by rw [← r.length, l.length]; exact z, ?_⟩)
  have hf : H1 s1.heap.objs.size = none := I1.hok.fresh (Nat.le_refl _)
  obtain ⟨g2, dn⟩ := new_tup (sr.go g) hf l
  refine ⟨.ref s1.heap.objs.size, _, _, M1, I1.laid (t' := s1.toks) (fun b u e => Heap.get?_push_of_some _ e) (Nat.le_refl _) ?_, rfl, g.trans g2, dn, q⟩
  exact ⟨by rw [l.length]; exact z, us, r, ⟨_, Heap.get?_push_size _ rfl, rfl, _, rfl⟩⟩
theorem de_lst {t : DA} (h : DPA C es t) : DPE C (.List es pos) (dLst t) := by
  refine ⟨mono_lst h.mono, fun pins s σ H τ M Q I er sr q => ?_⟩
  refine wpAny_List_spliced (thn (h.go pos pins s σ H τ M _ I er sr q) fun us s1 ⟨xs, H1, ds, M1, I1, r, g, l, z, q⟩ => ⟨by rw [← r.length, l.length]; exact z, ?_⟩)
  have hf : H1 s1.heap.objs.size = none := I1.hok.fresh (Nat.le_refl _)
  obtain ⟨g2, dn⟩ := new_lst (sr.go g) hf l
  refine ⟨.ref s1.heap.objs.size, _, _, M1, I1.laid (t' := s1.toks) (fun b u e => Heap.get?_push_of_some _ e) (Nat.le_refl _) ?_, rfl, g.trans g2, dn, q⟩
  exact ⟨by rw [l.length]; exact z, us, 0, r, Heap.get?_push_size _ rfl⟩
theorem de_lstM {t : DA} (h : DPA C es t) : DPE C (.List es pos) (dLstM t) := by
  refine ⟨mono_lstM h.mono, fun pins s σ H τ M Q I er sr q => ?_⟩
  refine wpAny_List_spliced (thn (h.go pos pins s σ H τ M _ I er sr q) fun us s1 ⟨xs, H1, ds, M1, I1, r, g, l, z, q⟩ => ⟨by rw [← r.length, l.length]; exact z, ?_⟩)
  have hf : H1 s1.heap.objs.size = none := I1.hok.fresh (Nat.le_refl _)
  obtain ⟨g2, dn⟩ := new_lstM (sr.go g) hf l
  refine ⟨.ref s1.heap.objs.size, _, _, _, I1.laid (t' := s1.toks) (fun b u e => Heap.get?_push_of_some _ e) (Nat.le_refl _) ?_, rfl, g.trans g2, dn, q _ ((sr.go g).abs.free hf)⟩
  exact ⟨by rw [l.length]; exact z, us, 0, r, Heap.get?_push_size _ rfl⟩

/-! ### operations by values -/
/-- the items of a tuple, of a list -/
def items (M : Mp) : D → Option (List D)
  | .tup xs => some xs
  | .lst xs => some xs
  | .scr xs => some xs
  | .ref a => match M a with
    | some (.lst xs) => some xs
    | _ => none
  | _ => none
abbrev O2 := D → D → Mp → Option D
/-- a two-place operation that changes nothing -/
def DOp (C : DC) (F : Value → Value → Sem Value) (f : O2) : Prop :=
  ∀ (pins : List (Addr × Obj)) (s : Shared) (σ : L2.St) (H : Hp) (M : Mp) (x y : V) (u v : Value) (d e z : D), Inv C.X pins σ H s → SR C H M → RelV x u → RelV y v → Den C.X.K H M d x → Den C.X.K H M e y → f d e M = some z →
    wpAny (model C.X.prog C.X.w) C.X.A (F u v) (EPD C pins σ H M fun z' M' => z' = z ∧ M' = M) C.X.xe s
def dOp (f : O2) (ta tb : DE) : DE := fun τ M Q E => ta τ M (fun x M1 => tb τ M1 (fun y M2 => ok1 (f x y M2) fun z => Q z M2) E) E
theorem mono_op {f : O2} (m : MonoE ta) (n : MonoE tb) : MonoE (dOp f ta tb) := fun τ M Q Q' E E' h he q =>
  m τ M _ _ _ _ (fun x M1 => n τ M1 _ _ _ _ (fun y M2 => ok1_mono fun z => h z M2) he) he q
theorem bin2 {F : Value → Value → Sem Value} {f : O2} (ho : DOp C F f) (ha : DPE C a ta) (hb : DPE C b tb) {pins : List (Addr × Obj)} {s : Shared} {σ : L2.St} {H : Hp} {τ : Sd} {M : Mp} {Q : DK} (I : Inv C.X pins σ H s) (er : EnvR C.X.K H M τ σ) (sr : SR C H M)
    (q : dOp f ta tb τ M Q (xw C τ)) : wpAny (model C.X.prog C.X.w) C.X.A (eval a C.X.env) (fun v s₁ => wpAny (model C.X.prog C.X.w) C.X.A (eval b C.X.env) (fun u s₂ => wpAny (model C.X.prog C.X.w) C.X.A (F v u) (EPD C pins σ H M Q) C.X.xe s₂) C.X.xe s₁) C.X.xe s := by
  refine thn (ha.go pins s σ H τ M _ I er sr q) fun v s1 ⟨x, H1, d, M1, I1, r1, g1, dn1, q1⟩ => ?_
  refine thn (hb.go pins s1 σ H1 τ M1 _ I1 (er.keep g1.keep) (sr.go g1) q1) fun u s2 ⟨y, H2, e, M2, I2, r2, g2, dn2, q2⟩ => ?_
  obtain ⟨z, ez, q2⟩ := ok1_ex q2
  refine thn (ho pins s2 σ H2 M2 x y v u d e z I2 ((sr.go g1).go g2) r1 r2 (Den.keep g2.keep d dn1) dn2 ez) fun w s3 ⟨wv, H3, z', M3, I3, r3, g3, dn3, e3, e4⟩ => ?_
  subst e3; subst e4
  exact ⟨wv, H3, z', M3, I3, r3, (g1.trans g2).trans g3, dn3, q2⟩
theorem de_op {op : Operator} {f : O2} (ho : DOp C (binaryOp op) f) (ha : DPE C a ta) (hb : DPE C b tb) : DPE C (.BinOp a op b pos) (dOp f ta tb) :=
  ⟨mono_op ha.mono hb.mono, fun pins s σ H τ M Q I er sr q => wpAny_BinOp (bin2 ho ha hb I er sr q)⟩
theorem de_cmp {op : CmpOp} {f : O2} (ho : DOp C (compareOp op) f) (ha : DPE C a ta) (hb : DPE C b tb) (hm : behindInMarks op b = false := by rfl) : DPE C (.Compare a [op] [b] pos) (dOp f ta tb) :=
  ⟨mono_op ha.mono hb.mono, fun pins s σ H τ M Q I er sr q => wpAny_Compare1 (bin2 ho ha hb I er sr q) hm⟩
/-- an operation by a hand rule -/
theorem DOp.of {F : Value → Value → Sem Value} {r : R2} {f : O2} (h : OpR C.X F r)
    (hi : ∀ (pins : List (Addr × Obj)) (s : Shared) (σ : L2.St) (H : Hp) (M : Mp) (x y : V) (d e z : D) (Q : VK), Inv C.X pins σ H s → SR C H M → Den C.X.K H M d x → Den C.X.K H M e y → f d e M = some z → (∀ v H', Go C H M H' M → Den C.X.K H' M z v → Q v H') → r x y H Q) : DOp C F f :=
  fun pins s σ H M x y u v d e z I sr r1 r2 d1 d2 ez =>
    thn (h pins s σ H x y u v (fun w H' => Go C H M H' M ∧ Den C.X.K H' M z w) I r1 r2 (hi pins s σ H M x y d e z _ I sr d1 d2 ez fun v H' g dn => ⟨g, dn⟩)) fun w s' ⟨wv, H', I', rw, g, dn⟩ => ⟨wv, H', z, M, I', rw, g, dn, rfl, rfl⟩
/-- ints in, a plain value out -/
def fI (p : Int → Int → Bool) (g : Int → Int → D) : O2 := fun x y _ => match x, y with
  | .int i, .int j => if p i j = true then some (g i j) else none
  | _, _ => none
def pD : D → Option V
  | .non => some .non
  | .bl b => some (.bl b)
  | .int i => some (.int i)
  | .str s => some (.str s)
  | .ty n => some (.ty n)
  | .ref a => some (.ref a)
  | _ => none
theorem pD_den {K : PySem.W.Frag} {H : Hp} {M : Mp} {d : D} {v : V} (h : pD d = some v) : Den K H M d v := by
  cases d <;> simp only [pD, Option.some.injEq, reduceCtorEq] at h <;> (subst h; simp only [Den])
theorem den_pD {K : PySem.W.Frag} {H : Hp} {M : Mp} {d : D} {v w : V} (h : pD d = some w) (q : Den K H M d v) : v = w := by
  cases d <;> simp only [pD, Option.some.injEq, reduceCtorEq] at h <;> (subst h; simpa only [Den] using q)
theorem opI_of {F : Value → Value → Sem Value} {Cn : Int → Int → Prop} {p : Int → Int → Bool} {g : Int → Int → V} {gd : Int → Int → D} (h : OpR C.X F (rI Cn g)) (hp : ∀ i j, p i j = true → Cn i j) (hg : ∀ i j, pD (gd i j) = some (g i j)) : DOp C F (fI p gd) :=
  .of h fun pins s σ H M x y d e z Q I sr d1 d2 ez k => by
    unfold fI at ez
    split at ez <;> try cases ez
    rename_i i j
    split at ez <;> try cases ez
    rename_i hpp
    simp only [Den] at d1 d2
    exact ⟨i, j, d1, d2, hp i j hpp, k _ _ (Go.refl sr) (pD_den (hg i j))⟩
theorem opI0_of {F : Value → Value → Sem Value} {g : Int → Int → V} {gd : Int → Int → D} (h : OpR C.X F (rI0 g)) (hg : ∀ i j, pD (gd i j) = some (g i j)) : DOp C F (fI (fun _ _ => true) gd) :=
  .of h fun pins s σ H M x y d e z Q I sr d1 d2 ez k => by
    unfold fI at ez
    split at ez <;> try cases ez
    rename_i i j
    simp only [Den] at d1 d2
    exact ⟨i, j, d1, d2, k _ _ (Go.refl sr) (pD_den (hg i j))⟩
def small (i : Int) : Bool := decide (-18446744073709551616 < i) && decide (i < 18446744073709551616)
def fSub : O2 := fI (fun _ _ => true) fun i j => .int (i - j)
def fMulI : O2 := fI (fun i j => small i || small j) fun i j => .int (i * j)
def fDiv : O2 := fI (fun i j => decide (0 < j) && decide (j < 1073741824)) fun i j => .int (i / j)
def fMod : O2 := fI (fun i j => decide (0 < j)) fun i j => .int (i % j)
def fPow : O2 := fI (fun i j => decide (0 ≤ j) && decide (j ≤ 1000000) && decide (i.natAbs < 18446744073709551616)) fun i j => .int (i ^ j.toNat)
theorem dop_sub : DOp C (binaryOp .Sub) fSub := opI0_of op_sub fun _ _ => rfl
theorem dop_mul : DOp C (binaryOp .Mult) fMulI := opI_of op_mul (fun i j h => by
  simp only [small, Bool.or_eq_true, Bool.and_eq_true, decide_eq_true_eq] at h
  unfold CMul
  rcases h with h | h
  · exact .inl ⟨by omega, by omega⟩
  · exact .inr ⟨by omega, by omega⟩) fun _ _ => rfl
theorem dop_div : DOp C (binaryOp .FloorDiv) fDiv := opI_of op_fdiv (fun i j h => by
  simp only [Bool.and_eq_true, decide_eq_true_eq] at h
  exact h) fun _ _ => rfl
theorem dop_mod : DOp C (binaryOp .Mod) fMod := opI_of op_mod (fun i j h => by simpa using h) fun _ _ => rfl
theorem dop_pow : DOp C (binaryOp .Pow) fPow := opI_of op_pow (fun i j h => by
  simp only [Bool.and_eq_true, decide_eq_true_eq] at h
  exact ⟨h.1.1, h.1.2, by have := h.2; omega⟩) fun _ _ => rfl
def fLt : O2 := fI (fun _ _ => true) fun i j => .bl (decide (i < j))
def fLe : O2 := fI (fun _ _ => true) fun i j => .bl (decide (i ≤ j))
def fGt : O2 := fI (fun _ _ => true) fun i j => .bl (decide (j < i))
def fGe : O2 := fI (fun _ _ => true) fun i j => .bl (decide (j ≤ i))
theorem dop_lt : DOp C (compareOp .Lt) fLt := opI0_of op_lt fun _ _ => rfl
theorem dop_le : DOp C (compareOp .LtE) fLe := opI0_of op_le fun _ _ => rfl
theorem dop_gt : DOp C (compareOp .Gt) fGt := opI0_of op_gt fun _ _ => rfl
theorem dop_ge : DOp C (compareOp .GtE) fGe := opI0_of op_ge fun _ _ => rfl
/-- is None, is not None -/
def isNon : D → Bool
  | .non => true
  | _ => false
theorem den_non {K : PySem.W.Frag} {H : Hp} {M : Mp} {d : D} {v : V} (q : Den K H M d v) : decide (v = .non) = isNon d := by
  cases d <;> simp only [Den] at q
  case non => subst q; rfl
  case tup => obtain ⟨a, vs, rfl, _⟩ := q; rfl
  case lst => obtain ⟨a, vs, rfl, _⟩ := q; rfl
  case scr => obtain ⟨a, vs, rfl, _⟩ := q; rfl
  case dk => obtain ⟨a, vs, rfl, _⟩ := q; rfl
  all_goals (subst q; rfl)
def fIsN : O2 := fun x y _ => match y with
  | .non => some (.bl (isNon x))
  | _ => none
def fNotN : O2 := fun x y _ => match y with
  | .non => some (.bl (!isNon x))
  | _ => none
theorem dop_isN : DOp C (compareOp .Is) fIsN := .of op_isN fun pins s σ H M x y d e z Q I sr d1 d2 ez k => by
  cases e <;> simp only [fIsN, Option.some.injEq, reduceCtorEq] at ez
  subst ez
  simp only [Den] at d2
  exact ⟨d2, k _ _ (Go.refl sr) (by simp only [Den]; rw [den_non d1])⟩
theorem dop_notN : DOp C (compareOp .IsNot) fNotN := .of op_notN fun pins s σ H M x y d e z Q I sr d1 d2 ez k => by
  cases e <;> simp only [fNotN, Option.some.injEq, reduceCtorEq] at ez
  subst ez
  simp only [Den] at d2
  exact ⟨d2, k _ _ (Go.refl sr) (by simp only [Den]; rw [den_non d1])⟩
end
end DL

/-! Tests, truth, and, or, not, chains; statements. -/
namespace DL
open PySem PySem.Spec PyProof.Rows L2
section
variable {C : DC} {e a b c : Expr} {es rest : List Expr} {pos : Pos} {ta tb tc : DE} {tA tB : DT}

/-! ### tests -/
/-- a value's truth -/
def truth (M : Mp) : D → Option Bool
  | .non => some false
  | .bl b => some b
  | .int i => some (i != 0)
  | .str s => some (s.length != 0)
  | .tup xs => some (!xs.isEmpty)
  | .lst xs => some (!xs.isEmpty)
  | _ => none
def bool1 : D → Option Bool
  | .bl b => some b
  | _ => none
def tOf (t : DE) : DT := fun τ M Q E => t τ M (fun d M1 => ok1 (bool1 d) fun b => Q b M1) E
theorem mono_tOf (m : MonoE ta) : MonoT (tOf ta) := fun τ M Q Q' E E' h he q => m τ M _ _ _ _ (fun d M1 => ok1_mono fun b => h b M1) he q
theorem bool1_den {K : PySem.W.Frag} {H : Hp} {M : Mp} {d : D} {v : V} {u : Value} {k : Bool} (e : bool1 d = some k) (q : Den K H M d v) (r : RelV v u) : u = .bool k := by
  cases d <;> simp only [bool1, Option.some.injEq, reduceCtorEq] at e
  subst e
  simp only [Den] at q
  subst q
  exact r
/-- an expression that gives a bool -/
theorem dt_val (h : DPE C e ta) (he : ∀ whole, isTrue e C.X.env whole = (do let v ← whole; standAt e.pos; holding [v] (truthy v)) := by intro _; rfl) (hb : ∀ op es pos, e ≠ .BoolOp op es pos := by intro _ _ _ z; cases z) : DPT C e (tOf ta) :=
  ⟨mono_tOf h.mono, fun whole pins s σ H τ M Q hw I er sr q => by
    rcases hw with hw | ⟨op, es, pos, hw⟩
    · subst hw
      refine isTrue_plain (thn (h.go pins s σ H τ M _ I er sr q) fun v s1 ⟨x, H1, d, M1, I1, r1, g1, dn1, q1⟩ => ?_) (he _)
      obtain ⟨k, ek, q1⟩ := ok1_ex q1
      have := bool1_den ek dn1 r1
      subst this
      exact wpAny_truthy_bool ⟨H1, M1, I1, g1, q1⟩
    · exact absurd hw (hb _ _ _)⟩
theorem dt_cmp {op : CmpOp} {f : O2} (ho : DOp C (compareOp op) f) (ha : DPE C a ta) (hb : DPE C b tb) (hm : behindInMarks op b = false := by rfl) : DPT C (.Compare a [op] [b] pos) (tOf (dOp f ta tb)) :=
  ⟨mono_tOf (mono_op ha.mono hb.mono), fun whole pins s σ H τ M Q hw I er sr q => by
    refine wpAny_isTrue_Compare1 (thn (bin2 ho ha hb I er sr q) fun v s1 h1 => thn h1 fun u s2 h2 => thn h2 fun c s3 ⟨x, H1, d, M1, I1, r1, g1, dn1, q1⟩ => ?_) hm
    obtain ⟨k, ek, q1⟩ := ok1_ex q1
    have := bool1_den ek dn1 r1
    subst this
    exact wpAny_truthy_bool ⟨H1, M1, I1, g1, q1⟩⟩
def tAnd (t u : DT) : DT := fun τ M Q E => t τ M (fun c M1 => if c = true then u τ M1 Q E else Q false M1) E
def tOr (t u : DT) : DT := fun τ M Q E => t τ M (fun c M1 => if c = true then Q true M1 else u τ M1 Q E) E
def tNot (t : DT) : DT := fun τ M Q E => t τ M (fun c M1 => Q (!c) M1) E
theorem mono_and (m : MonoT tA) (n : MonoT tB) : MonoT (tAnd tA tB) := fun τ M Q Q' E E' h he q => m τ M _ _ _ _ (fun c M1 z => by
  cases c with
  | true => exact n τ M1 _ _ _ _ h he z
  | false => exact h _ _ z) he q
theorem mono_or (m : MonoT tA) (n : MonoT tB) : MonoT (tOr tA tB) := fun τ M Q Q' E E' h he q => m τ M _ _ _ _ (fun c M1 z => by
  cases c with
  | true => exact h _ _ z
  | false => exact n τ M1 _ _ _ _ h he z) he q
theorem mono_not (m : MonoT tA) : MonoT (tNot tA) := fun τ M Q Q' E E' h he q => m τ M _ _ _ _ (fun c M1 z => h _ _ z) he q
theorem TPD.go {pins : List (Addr × Obj)} {σ : L2.St} {H H1 : Hp} {M M1 : Mp} {Q : Bool → Mp → Prop} {k : Bool} {s : Shared} (g : Go C H M H1 M1) (h : TPD C pins σ H1 M1 Q k s) : TPD C pins σ H M Q k s :=
  let ⟨H2, M2, I2, g2, q⟩ := h; ⟨H2, M2, I2, g.trans g2, q⟩
theorem dt_and1 (ha : DPT C a tA) : DPT C (.BoolOp .And [a] pos) tA := ⟨ha.mono, fun wh pins s σ H τ M Q _ I er sr q => by
  refine isTrue_and (thn (ha.go _ pins s σ H τ M Q (.inl rfl) I er sr q) fun c s1 e => ?_)
  cases c with
  | true => exact isTrue_and_nil e
  | false => exact e⟩
theorem dt_or1 (ha : DPT C a tA) : DPT C (.BoolOp .Or [a] pos) tA := ⟨ha.mono, fun wh pins s σ H τ M Q _ I er sr q => by
  refine isTrue_or (thn (ha.go _ pins s σ H τ M Q (.inl rfl) I er sr q) fun c s1 e => ?_)
  cases c with
  | false => exact isTrue_or_nil e
  | true => exact e⟩
theorem dt_and (ha : DPT C a tA) (hb : DPT C (.BoolOp .And (b :: rest) pos) tB) : DPT C (.BoolOp .And (a :: b :: rest) pos) (tAnd tA tB) := ⟨mono_and ha.mono hb.mono, fun wh pins s σ H τ M Q _ I er sr q => by
  refine isTrue_and (thn (ha.go _ pins s σ H τ M _ (.inl rfl) I er sr q) fun c s1 ⟨H1, M1, I1, g1, q1⟩ => ?_)
  cases c with
  | true => exact thn (hb.go wh pins s1 σ H1 τ M1 Q (.inr ⟨_, _, _, rfl⟩) I1 (er.keep g1.keep) (sr.go g1) q1) fun _ _ z => z.go g1
  | false => exact ⟨H1, M1, I1, g1, q1⟩⟩
theorem dt_or (ha : DPT C a tA) (hb : DPT C (.BoolOp .Or (b :: rest) pos) tB) : DPT C (.BoolOp .Or (a :: b :: rest) pos) (tOr tA tB) := ⟨mono_or ha.mono hb.mono, fun wh pins s σ H τ M Q _ I er sr q => by
  refine isTrue_or (thn (ha.go _ pins s σ H τ M _ (.inl rfl) I er sr q) fun c s1 ⟨H1, M1, I1, g1, q1⟩ => ?_)
  cases c with
  | true => exact ⟨H1, M1, I1, g1, q1⟩
  | false => exact thn (hb.go wh pins s1 σ H1 τ M1 Q (.inr ⟨_, _, _, rfl⟩) I1 (er.keep g1.keep) (sr.go g1) q1) fun _ _ z => z.go g1⟩
theorem dt_not (ha : DPT C a tA) : DPT C (.UnaryOp .Not a pos) (tNot tA) := ⟨mono_not ha.mono, fun wh pins s σ H τ M Q hw I er sr q => by
  rcases hw with hw | ⟨_, _, _, z⟩
  · subst hw
    exact isTrue_not (thn (ha.go _ pins s σ H τ M (fun c M1 => Q (!c) M1) (.inl rfl) I er sr q) fun c s1 ⟨H1, M1, I1, g1, q1⟩ => ⟨H1, M1, I1, g1, q1⟩)
  · cases z⟩
/-! ### and, or, not as values (bools) -/
def dAnd (ta tb : DE) : DE := fun τ M Q E => ta τ M (fun x M1 => ok1 (bool1 x) fun c => if c = true then tb τ M1 Q E else Q (.bl false) M1) E
def dOr (ta tb : DE) : DE := fun τ M Q E => ta τ M (fun x M1 => ok1 (bool1 x) fun c => if c = true then Q (.bl true) M1 else tb τ M1 Q E) E
def dNot (ta : DE) : DE := fun τ M Q E => ta τ M (fun x M1 => ok1 (bool1 x) fun c => Q (.bl (!c)) M1) E
theorem mono_dand (m : MonoE ta) (n : MonoE tb) : MonoE (dAnd ta tb) := fun τ M Q Q' E E' h he q => m τ M _ _ _ _ (fun x M1 => ok1_mono fun c z => by
  cases c with
  | true => exact n τ M1 _ _ _ _ h he z
  | false => exact h _ _ z) he q
theorem mono_dor (m : MonoE ta) (n : MonoE tb) : MonoE (dOr ta tb) := fun τ M Q Q' E E' h he q => m τ M _ _ _ _ (fun x M1 => ok1_mono fun c z => by
  cases c with
  | true => exact h _ _ z
  | false => exact n τ M1 _ _ _ _ h he z) he q
theorem mono_dnot (m : MonoE ta) : MonoE (dNot ta) := fun τ M Q Q' E E' h he q => m τ M _ _ _ _ (fun x M1 => ok1_mono fun c z => h _ _ z) he q
theorem EPD.go {pins : List (Addr × Obj)} {σ : L2.St} {H H1 : Hp} {M M1 : Mp} {Q : DK} {u : Value} {s : Shared} (g : Go C H M H1 M1) (h : EPD C pins σ H1 M1 Q u s) : EPD C pins σ H M Q u s :=
  let ⟨v, H2, d, M2, I2, r, g2, dn, q⟩ := h; ⟨v, H2, d, M2, I2, r, g.trans g2, dn, q⟩
theorem de_one {op} (h : DPE C a ta) : DPE C (.BoolOp op [a] pos) ta := ⟨h.mono, fun pins s σ H τ M Q I er sr q => BoolOp_one (h.go pins s σ H τ M Q I er sr q)⟩
theorem de_and (ha : DPE C a ta) (hb : DPE C (.BoolOp .And (b :: rest) pos) tb) : DPE C (.BoolOp .And (a :: b :: rest) pos) (dAnd ta tb) := ⟨mono_dand ha.mono hb.mono, fun pins s σ H τ M Q I er sr q => by
  refine BoolOp_and (thn (ha.go pins s σ H τ M _ I er sr q) fun v s1 ⟨x, H1, d, M1, I1, r1, g1, dn1, q1⟩ => ?_)
  obtain ⟨k, ek, q1⟩ := ok1_ex q1
  have := bool1_den ek dn1 r1
  subst this
  refine wpAny_truthy_bool ?_
  cases k with
  | true => exact thn (hb.go pins s1 σ H1 τ M1 Q I1 (er.keep g1.keep) (sr.go g1) q1) fun _ _ z => z.go g1
  | false => exact ⟨.bl false, H1, .bl false, M1, I1, rfl, g1, by simp only [Den], q1⟩⟩
theorem de_or (ha : DPE C a ta) (hb : DPE C (.BoolOp .Or (b :: rest) pos) tb) : DPE C (.BoolOp .Or (a :: b :: rest) pos) (dOr ta tb) := ⟨mono_dor ha.mono hb.mono, fun pins s σ H τ M Q I er sr q => by
  refine BoolOp_or (thn (ha.go pins s σ H τ M _ I er sr q) fun v s1 ⟨x, H1, d, M1, I1, r1, g1, dn1, q1⟩ => ?_)
  obtain ⟨k, ek, q1⟩ := ok1_ex q1
  have := bool1_den ek dn1 r1
  subst this
  refine wpAny_truthy_bool ?_
  cases k with
  | false => exact thn (hb.go pins s1 σ H1 τ M1 Q I1 (er.keep g1.keep) (sr.go g1) q1) fun _ _ z => z.go g1
  | true => exact ⟨.bl true, H1, .bl true, M1, I1, rfl, g1, by simp only [Den], q1⟩⟩
theorem de_not (ha : DPE C a ta) : DPE C (.UnaryOp .Not a pos) (dNot ta) := ⟨mono_dnot ha.mono, fun pins s σ H τ M Q I er sr q => by
  refine UnaryOp_ (thn (ha.go pins s σ H τ M _ I er sr q) fun v s1 ⟨x, H1, d, M1, I1, r1, g1, dn1, q1⟩ => ?_)
  obtain ⟨k, ek, q1⟩ := ok1_ex q1
  have := bool1_den ek dn1 r1
  subst this
  exact not_of (wpAny_truthy_bool ⟨.bl (!k), H1, .bl (!k), M1, I1, rfl, g1, by simp only [Den], q1⟩)⟩
def dNeg (ta : DE) : DE := fun τ M Q E => ta τ M (fun x M1 => match x with
  | .int i => Q (.int (-i)) M1
  | _ => False) E
theorem mono_neg (m : MonoE ta) : MonoE (dNeg ta) := fun τ M Q Q' E E' h he q => m τ M _ _ _ _ (fun x M1 z => by
  cases x <;> first | exact h _ _ z | exact z) he q
theorem de_neg (ha : DPE C a ta) : DPE C (.UnaryOp .USub a pos) (dNeg ta) := .of (mono_neg ha.mono) (pe_un un_neg ha.pe) fun σ H Q ⟨τ, M, er, sr, q⟩ => ⟨τ, M, er, sr, ha.mono _ _ _ _ _ _ (fun d M' z v H' g dn => by
  cases d <;> try exact z.elim
  rename_i i
  simp only [Den] at dn
  subst dn
  exact ⟨i, rfl, z _ _ g (by simp only [Den])⟩) (fun _ _ _ z => z) q⟩
/-- a if t else b -/
def dIf (t : DT) (ta tb : DE) : DE := fun τ M Q E => t τ M (fun c M1 => if c = true then ta τ M1 Q E else tb τ M1 Q E) E
theorem mono_if {t : DT} (m : MonoT t) (ma : MonoE ta) (mb : MonoE tb) : MonoE (dIf t ta tb) := fun τ M Q Q' E E' h he q => m τ M _ _ _ _ (fun c M1 z => by
  cases c with
  | true => exact ma τ M1 _ _ _ _ h he z
  | false => exact mb τ M1 _ _ _ _ h he z) he q
theorem de_if {t : DT} (hc : DPT C c t) (ha : DPE C a ta) (hb : DPE C b tb) : DPE C (.IfExp c a b pos) (dIf t ta tb) := ⟨mono_if hc.mono ha.mono hb.mono, fun pins s σ H τ M Q I er sr q => by
  refine wpAny_IfExp (thn (hc.go _ pins s σ H τ M _ (.inl rfl) I er sr q) fun k s1 ⟨H1, M1, I1, g1, q1⟩ => ?_)
  cases k with
  | true => exact thn (ha.go pins s1 σ H1 τ M1 Q I1 (er.keep g1.keep) (sr.go g1) q1) fun _ _ z => z.go g1
  | false => exact thn (hb.go pins s1 σ H1 τ M1 Q I1 (er.keep g1.keep) (sr.go g1) q1) fun _ _ z => z.go g1⟩
/-- a < b <= c: the middle one is asked once -/
def dChain (f g : O2) (ta tb tc : DE) : DE := fun τ M Q E => ta τ M (fun x M1 => tb τ M1 (fun y M2 => ok1 (f x y M2) fun z => ok1 (bool1 z) fun k =>
  if k = true then tc τ M2 (fun w M3 => ok1 (g y w M3) fun z => Q z M3) E else Q (.bl false) M2) E) E
theorem mono_chain {f g : O2} (ma : MonoE ta) (mb : MonoE tb) (mc : MonoE tc) : MonoE (dChain f g ta tb tc) := fun τ M Q Q' E E' h he q =>
  ma τ M _ _ _ _ (fun x M1 => mb τ M1 _ _ _ _ (fun y M2 => ok1_mono fun z => ok1_mono fun k w => by
    cases k with
    | true => exact mc τ M2 _ _ _ _ (fun v M3 => ok1_mono fun z => h z M3) he w
    | false => exact h _ _ w) he) he q
end
end DL

/-! Chains; statements. -/
namespace DL
open PySem PySem.Spec PyProof.Rows L2
section
variable {C : DC} {e a b c : Expr} {es : List Expr} {pos : Pos} {ta tb tc : DE} {st : Stmt} {rest sts : List Stmt} {t u : DS}
theorem chain_end {G : Value → Value → Sem Value} {g : O2} (ho : DOp C G g) (hc : DPE C c tc) {pins : List (Addr × Obj)} {s : Shared} {σ : L2.St} {H H3 : Hp} {τ : Sd} {M M3 : Mp} {Q : DK} {y : V} {u : Value} {e : D} (I : Inv C.X pins σ H3 s) (er : EnvR C.X.K H M τ σ) (sr : SR C H M)
    (g3 : Go C H M H3 M3) (r2 : RelV y u) (dn : Den C.X.K H3 M3 e y) (q : tc τ M3 (fun w M4 => ok1 (g e w M4) fun z => Q z M4) (xw C τ)) :
    wpAny (model C.X.prog C.X.w) C.X.A (eval c C.X.env) (fun w s₂ => wpAny (model C.X.prog C.X.w) C.X.A (G u w) (EPD C pins σ H M Q) C.X.xe s₂) C.X.xe s := by
  refine thn (hc.go pins s σ H3 τ M3 _ I (er.keep g3.keep) (sr.go g3) q) fun w s4 ⟨x4, H4, d4, M4, I4, r4, g4, dn4, q4⟩ => ?_
  obtain ⟨z, ez, q4⟩ := ok1_ex q4
  refine thn (ho pins s4 σ H4 M4 y x4 u w e d4 z I4 ((sr.go g3).go g4) r2 r4 (Den.keep g4.keep e dn) dn4 ez) fun w5 s5 ⟨wv, H5, z', M5, I5, r5, g5, dn5, e5, e6⟩ => ?_
  subst e5; subst e6
  exact ⟨wv, H5, z', _, I5, r5, (g3.trans g4).trans g5, dn5, q4⟩
theorem de_chain {op op' : CmpOp} {f g : O2} (ho : DOp C (compareOp op) f) (ho' : DOp C (compareOp op') g) (ha : DPE C a ta) (hb : DPE C b tb) (hc : DPE C c tc) (hm : lastMarks [op, op'] [b, c] = false := by with_unfolding_all rfl) :
    DPE C (.Compare a [op, op'] [b, c] pos) (dChain f g ta tb tc) := ⟨mono_chain ha.mono hb.mono hc.mono, fun pins s σ H τ M Q I er sr q => by
  refine Compare_chain (thn (ha.go pins s σ H τ M _ I er sr q) fun v s1 ⟨x, H1, d, M1, I1, r1, g1, dn1, q1⟩ => chain_link (thn (hb.go pins s1 σ H1 τ M1 _ I1 (er.keep g1.keep) (sr.go g1) q1) fun u s2 ⟨y, H2, e, M2, I2, r2, g2, dn2, q2⟩ => ?_)) hm
  obtain ⟨z, ez, q2⟩ := ok1_ex q2
  obtain ⟨k, ek, q2⟩ := ok1_ex q2
  refine thn (ho pins s2 σ H2 M2 x y v u d e z I2 ((sr.go g1).go g2) r1 r2 (Den.keep g2.keep d dn1) dn2 ez) fun w s3 ⟨wv, H3, z', M3, I3, r3, g3, dn3, e3, e4⟩ => ?_
  subst e3; subst e4
  have := bool1_den ek dn3 r3
  subst this
  have g123 := (g1.trans g2).trans g3
  refine wpAny_truthy_bool ?_
  cases k with
  | false => exact ite_ff ⟨.bl false, H3, .bl false, _, I3, rfl, g123, by simp only [Den], q2⟩
  | true => exact ite_tt (chain_last (chain_end ho' hc I3 er sr g123 r2 (Den.keep g3.keep e dn2) q2))⟩
theorem dt_chain {op op' : CmpOp} {f g : O2} (ho : DOp C (compareOp op) f) (ho' : DOp C (compareOp op') g) (ha : DPE C a ta) (hb : DPE C b tb) (hc : DPE C c tc) (hm : lastMarks [op, op'] [b, c] = false := by with_unfolding_all rfl) :
    DPT C (.Compare a [op, op'] [b, c] pos) (tOf (dChain f g ta tb tc)) := ⟨mono_tOf (mono_chain ha.mono hb.mono hc.mono), fun whole pins s σ H τ M Q _ I er sr q => by
  refine isTrue_chain (thn (ha.go pins s σ H τ M _ I er sr q) fun v s1 ⟨x, H1, d, M1, I1, r1, g1, dn1, q1⟩ => test_link (thn (hb.go pins s1 σ H1 τ M1 _ I1 (er.keep g1.keep) (sr.go g1) q1) fun u s2 ⟨y, H2, e, M2, I2, r2, g2, dn2, q2⟩ => ?_)) hm
  obtain ⟨z, ez, q2⟩ := ok1_ex q2
  obtain ⟨k, ek, q2⟩ := ok1_ex q2
  refine thn (ho pins s2 σ H2 M2 x y v u d e z I2 ((sr.go g1).go g2) r1 r2 (Den.keep g2.keep d dn1) dn2 ez) fun w s3 ⟨wv, H3, z', M3, I3, r3, g3, dn3, e3, e4⟩ => ?_
  subst e3; subst e4
  have := bool1_den ek dn3 r3
  subst this
  have g123 := (g1.trans g2).trans g3
  refine wpAny_truthy_bool ?_
  cases k with
  | false =>
    obtain ⟨k2, e2, q3⟩ := ok1_ex (show ok1 (bool1 (.bl false)) (fun b => Q b _) from q2)
    cases (show some false = some k2 from e2)
    exact ite_ff ⟨H3, _, I3, g123, q3⟩
  | true =>
    refine ite_tt (test_last (thn (chain_end (Q := fun d M1 => ok1 (bool1 d) fun b => Q b M1) ho' hc I3 er sr g123 r2 (Den.keep g3.keep e dn2) q2) fun w4 s4 h4 => thn h4 fun w5 s5 ⟨x5, H5, d5, M5, I5, r5, g5, dn5, q5⟩ => ?_))
    obtain ⟨k2, ek2, q6⟩ := ok1_ex q5
    have := bool1_den ek2 dn5 r5
    subst this
    exact wpAny_truthy_bool ⟨H5, M5, I5, g5, q6⟩⟩

/-! ### statements -/
def sNext : DS := fun D τ M => D.nx τ M
def sSeq (t u : DS) : DS := fun D τ M => t { D with nx := u D } τ M
theorem le_nx {a b : DEnds} {f g : Sd → Mp → Prop} (h : a.Le b) (k : ∀ τ M, f τ M → g τ M) : DEnds.Le { a with nx := f } { b with nx := g } := ⟨k, h.rt, h.bk, h.ct, h.ex⟩
theorem monoS_next : MonoS sNext := fun a b τ M h q => h.nx τ M q
theorem monoS_seq (m : MonoS t) (n : MonoS u) : MonoS (sSeq t u) := fun a b τ M h q => m _ _ τ M (le_nx h fun τ' M' z => n a b τ' M' h z) q
theorem SPD.go {pins : List (Addr × Obj)} {H H1 : Hp} {M M1 : Mp} {D : DEnds} {f : Flow} {s : Shared} (g : Go C H M H1 M1) (h : SPD C pins H1 M1 D f s) : SPD C pins H M D f s := by
  cases f with
  | next => obtain ⟨σ', H', τ', M', I, er, g2, q⟩ := h; exact ⟨σ', H', τ', M', I, er, g.trans g2, q⟩
  | brk => obtain ⟨σ', H', τ', M', I, er, g2, q⟩ := h; exact ⟨σ', H', τ', M', I, er, g.trans g2, q⟩
  | cont => obtain ⟨σ', H', τ', M', I, er, g2, q⟩ := h; exact ⟨σ', H', τ', M', I, er, g.trans g2, q⟩
  | ret u => obtain ⟨v, σ', H', d, M', I, r, g2, dn, q⟩ := h; exact ⟨v, σ', H', d, M', I, r, g.trans g2, dn, q⟩
theorem dss_nil : DPSs C [] sNext := ⟨monoS_next, fun pins s σ H τ M D I er sr q => wpAny_execs_nil ⟨σ, H, τ, M, I, er, Go.refl sr, q⟩⟩
theorem dss_cons (h1 : DPS C st t) (h2 : DPSs C rest u) : DPSs C (st :: rest) (sSeq t u) := ⟨monoS_seq h1.mono h2.mono, fun pins s σ H τ M D I er sr q => by
  refine wpAny_execs_cons (thn (h1.go pins s σ H τ M { D with nx := u { D with ex := C.W } } I er sr q) fun f s1 q1 => ?_)
  cases f with
  | next =>
    obtain ⟨σ', H', τ', M', I1, er1, g1, q1⟩ := q1
    exact thn (h2.go pins s1 σ' H' τ' M' D I1 er1 (sr.go g1) q1) fun f s' z => z.go g1
  | ret v => exact q1
  | brk => exact q1
  | cont => exact q1⟩
theorem dss_one (h1 : DPS C st t) : DPSs C [st] t := ⟨h1.mono, fun pins s σ H τ M D I er sr q => by
  refine wpAny_execs_cons (thn (h1.go pins s σ H τ M D I er sr q) fun f s1 q1 => ?_)
  cases f with
  | next => exact wpAny_execs_nil q1
  | ret v => exact q1
  | brk => exact q1
  | cont => exact q1⟩
def sBreak : DS := fun D τ M => D.bk τ M
def sCont : DS := fun D τ M => D.ct τ M
theorem ds_pass : DPS C (.Pass pos) sNext := ⟨monoS_next, fun pins s σ H τ M D I er sr q => wpAny_Pass ⟨σ, H, τ, M, I, er, Go.refl sr, q⟩⟩
theorem ds_break : DPS C (.Break pos) sBreak := ⟨fun a b τ M h q => h.bk τ M q, fun pins s σ H τ M D I er sr q => wpAny_Break ⟨σ, H, τ, M, I, er, Go.refl sr, q⟩⟩
theorem ds_continue : DPS C (.Continue pos) sCont := ⟨fun a b τ M h q => h.ct τ M q, fun pins s σ H τ M D I er sr q => wpAny_Continue ⟨σ, H, τ, M, I, er, Go.refl sr, q⟩⟩
def sDrop (te : DE) : DS := fun D τ M => te τ M (fun _ M1 => D.nx τ M1) fun c fs M1 => D.ex c fs τ M1
theorem monoS_drop {te : DE} (m : MonoE te) : MonoS (sDrop te) := fun a b τ M h q => m τ M _ _ _ _ (fun _ M1 => h.nx τ M1) (fun c fs M1 => h.ex c fs τ M1) q
theorem ds_expr {te : DE} (he : DPE C e te) (hs : swapsWith e none pos.line C.X.env = pure false := by rfl) : DPS C (.Expr e pos) (sDrop te) := ⟨monoS_drop he.mono, fun pins s σ H τ M D I er sr q =>
  wpAny_Expr_any (thn (he.go pins s σ H τ M _ I er sr q) fun v s1 ⟨x, H1, d, M1, I1, r1, g1, dn1, q1⟩ => ⟨σ, H1, τ, M1, I1, er.keep g1.keep, g1, q1⟩) I.quiet hs⟩
def sRet (te : DE) : DS := fun D τ M => te τ M D.rt fun c fs M1 => D.ex c fs τ M1
theorem monoS_ret {te : DE} (m : MonoE te) : MonoS (sRet te) := fun a b τ M h q => m τ M _ _ _ _ h.rt (fun c fs M1 => h.ex c fs τ M1) q
theorem ds_ret {te : DE} (he : DPE C e te) : DPS C (.Return (some e) pos) (sRet te) := ⟨monoS_ret he.mono, fun pins s σ H τ M D I er sr q =>
  wpAny_Return_some (thn (he.go pins s σ H τ M _ I er sr q) fun v s1 ⟨x, H1, d, M1, I1, r1, g1, dn1, q1⟩ => ⟨x, σ, H1, d, M1, I1, r1, g1, dn1, q1⟩)⟩
def sIf (c : DT) (t u : DS) : DS := fun D τ M => c τ M (fun k M1 => if k = true then t D τ M1 else u D τ M1) fun c fs M1 => D.ex c fs τ M1
theorem monoS_if {c : DT} (m : MonoT c) (n : MonoS t) (o : MonoS u) : MonoS (sIf c t u) := fun a b τ M h q => m τ M _ _ _ _ (fun k M1 z => by
  cases k with
  | true => exact n a b τ M1 h z
  | false => exact o a b τ M1 h z) (fun c fs M1 => h.ex c fs τ M1) q
theorem ds_if {c : Expr} {x y : List Stmt} {tc : DT} (hc : DPT C c tc) (hx : DPSs C x t) (hy : DPSs C y u) : DPS C (.If c x y pos) (sIf tc t u) := ⟨monoS_if hc.mono hx.mono hy.mono, fun pins s σ H τ M D I er sr q => by
  refine wpAny_If (thn (hc.go _ pins s σ H τ M _ (.inl rfl) I er sr q) fun k s1 ⟨H1, M1, I1, g1, q1⟩ => ?_)
  cases k with
  | true => exact thn (hx.go pins s1 σ H1 τ M1 D I1 (er.keep g1.keep) (sr.go g1) q1) fun _ _ z => z.go g1
  | false => exact thn (hy.go pins s1 σ H1 τ M1 D I1 (er.keep g1.keep) (sr.go g1) q1) fun _ _ z => z.go g1⟩
def sNever : DS := fun _ _ _ => False
theorem ds_never : DPS C st sNever := ⟨fun _ _ _ _ _ q => q, fun _ _ _ _ _ _ _ _ _ _ q => q.elim⟩
theorem dss_never : DPSs C sts sNever := ⟨fun _ _ _ _ _ q => q, fun _ _ _ _ _ _ _ _ _ _ q => q.elim⟩

/-! ### targets -/
abbrev DG := D → Sd → Mp → (Sd → Mp → Prop) → Prop
abbrev DGs := List D → Sd → Mp → (Sd → Mp → Prop) → Prop
def MonoG (t : DG) : Prop := ∀ (d : D) (τ : Sd) (M : Mp) (Q Q' : Sd → Mp → Prop), (∀ d M', Q d M' → Q' d M') → t d τ M Q → t d τ M Q'
def MonoGs (t : DGs) : Prop := ∀ (d : List D) (τ : Sd) (M : Mp) (Q Q' : Sd → Mp → Prop), (∀ d M', Q d M' → Q' d M') → t d τ M Q → t d τ M Q'
def GPD (C : DC) (pins : List (Addr × Obj)) (H : Hp) (M : Mp) (Q : Sd → Mp → Prop) (s' : Shared) : Prop := ∃ σ' H' τ' M', Inv C.X pins σ' H' s' ∧ EnvR C.X.K H' M' τ' σ' ∧ Go C H M H' M' ∧ Q τ' M'
structure DPG (C : DC) (tg : Expr) (t : DG) : Prop where
  mono : MonoG t
  go : ∀ (pins : List (Addr × Obj)) (s : Shared) (σ : L2.St) (H : Hp) (τ : Sd) (M : Mp) (d : D) (v : V) (u : Value) (Q : Sd → Mp → Prop), Inv C.X pins σ H s → EnvR C.X.K H M τ σ → SR C H M → RelV v u → Den C.X.K H M d v → t d τ M Q →
    wpAny (model C.X.prog C.X.w) C.X.A (assign tg C.X.env u) (fun _ s' => GPD C pins H M Q s') C.X.xe s
structure DPGs (C : DC) (ts : List Expr) (t : DGs) : Prop where
  mono : MonoGs t
  go : ∀ (pins : List (Addr × Obj)) (s : Shared) (σ : L2.St) (H : Hp) (τ : Sd) (M : Mp) (ds : List D) (vs : List V) (us : List Value) (Q : Sd → Mp → Prop), Inv C.X pins σ H s → EnvR C.X.K H M τ σ → SR C H M → Vals vs us → DenL C.X.K H M ds vs → t ds τ M Q →
    wpAny (model C.X.prog C.X.w) C.X.A (assignInOrder ((assignEach ts C.X.env).map (·.2)) us) (fun _ s' => GPD C pins H M Q s') C.X.xe s
def gVar (i : Nat) : DG := fun d τ M Q => Q (setV τ i (some d)) M
theorem monoG_var {i : Nat} : MonoG (gVar i) := fun d τ M Q Q' h q => h _ _ q
theorem dg_name {i : Nat} {x : Str} (hi : C.X.N[i]? = some x) (hx : Loc C.X.env.scope x) (hf : C.X.fn x = true ∨ C.X.env.scope.names.lookup x = some .local := by first | exact .inl rfl | exact .inr rfl | assumption) : DPG C (.Name x pos) (gVar i) :=
  ⟨monoG_var, fun pins s σ H τ M d v u Q I er sr r dn q => wpAny_assign_Name (store_ok I C.nd hi hx r (fun s' I' => ⟨_, H, _, M, I', by rw [setV_set]; exact er.set dn, Go.refl sr, q⟩) hf)⟩
def gNil : DGs := fun ds τ M Q => match ds with
  | [] => Q τ M
  | _ => False
def gCons (t : DG) (r : DGs) : DGs := fun ds τ M Q => match ds with
  | d :: ds => t d τ M (fun τ' M' => r ds τ' M' Q)
  | [] => False
theorem monoG_nil : MonoGs gNil := fun ds τ M Q Q' h q => by
  cases ds with
  | nil => exact h _ _ q
  | cons => exact q
theorem monoG_cons {t : DG} {r : DGs} (m : MonoG t) (n : MonoGs r) : MonoGs (gCons t r) := fun ds τ M Q Q' h q => by
  cases ds with
  | nil => exact q
  | cons d ds => exact m d τ M _ _ (fun τ' M' => n ds τ' M' _ _ h) q
theorem dgs_nil : DPGs C [] gNil := ⟨monoG_nil, fun pins s σ H τ M ds vs us Q I er sr r l q => by
  cases ds with
  | cons => exact q.elim
  | nil =>
    simp only [DenL] at l
    subst l
    cases r
    exact assignInOrder_nil ⟨σ, H, τ, M, I, er, Go.refl sr, q⟩⟩
theorem dgs_cons {t : DG} {r : DGs} (h1 : DPG C e t) (h2 : DPGs C es r) (hs : (assignEach (e :: es) C.X.env).map (·.2) = assign e C.X.env :: (assignEach es C.X.env).map (·.2) := by rfl) : DPGs C (e :: es) (gCons t r) :=
  ⟨monoG_cons h1.mono h2.mono, fun pins s σ H τ M ds vs us Q I er sr rv l q => by
  cases ds with
  | nil => exact q.elim
  | cons d ds =>
    simp only [DenL] at l
    obtain ⟨v, vs, rfl, dn, l⟩ := l
    cases rv with
    | cons ru rr =>
      rw [hs]
      refine assignInOrder_cons (thn (h1.go pins s σ H τ M d v _ _ I er sr ru dn q) fun _ s1 ⟨σ1, H1, τ1, M1, I1, er1, g1, q1⟩ => ?_)
      exact thn (h2.go pins s1 σ1 H1 τ1 M1 ds vs _ Q I1 er1 (sr.go g1) rr (l.keep g1.keep) q1) fun _ s2 ⟨σ2, H2, τ2, M2, I2, er2, g2, q2⟩ => ⟨σ2, H2, τ2, M2, I2, er2, g1.trans g2, q2⟩⟩
/-- (a, b, ..) = a tuple of so many -/
def gTup (n : Nat) (t : DGs) : DG := fun d τ M Q => match d with
  | .tup ds => ds.length = n ∧ t ds τ M Q
  | _ => False
theorem monoG_tup {n : Nat} {t : DGs} (m : MonoGs t) : MonoG (gTup n t) := fun d τ M Q Q' h q => by
  cases d <;> first | exact ⟨q.1, m _ τ M _ _ h q.2⟩ | exact q
theorem tup_of {pins : List (Addr × Obj)} {s : Shared} {σ : L2.St} {H : Hp} {M : Mp} {ds : List D} {v : V} {u : Value} (I : Inv C.X pins σ H s) (r : RelV v u) (dn : Den C.X.K H M (.tup ds) v) :
    ∃ a vs its, v = .ref a ∧ u = .ref a ∧ TpAt C.X.K H M a vs ∧ DenL C.X.K H M ds vs ∧ Vals vs its ∧ IsTup s.heap a its.toArray ∧ ds.length ≤ sizeLine ∧ its.length = ds.length := by
  simp only [Den] at dn
  obtain ⟨a, vs, rfl, t, l⟩ := dn
  obtain ⟨its, rv, ht, hz⟩ := I.tuple t.sq
  exact ⟨a, vs, its, rfl, r, t, l, rv, ht, by rw [← l.length]; exact hz, by rw [← rv.length, l.length]⟩
theorem dg_tup {k n : Nat} {t : DGs} (hc : C.X.calm = true) (h : DPGs C es t) (hn : (assignEach es C.X.env).length = n := by rfl) (hst : (assignEach es C.X.env).findIdx? (·.1) = none := by rfl) : DPG C (.Tuple es k pos) (gTup n t) :=
  ⟨monoG_tup h.mono, fun pins s σ H τ M d v u Q I er sr r dn q => by
  cases d <;> try exact q.elim
  rename_i ds
  obtain ⟨hl, q⟩ := q
  obtain ⟨a, vs, its, rfl, rfl, t0, l, rv, ht, hz, hi⟩ := tup_of I r dn
  refine assign_Tuple_tuple (I.ok.hd hc) ht (by simp [hn, ← hl, hi]) hst fun h' hx => ?_
  have I1 : Inv C.X pins σ H { s with heap := h' } := I.kept (t' := s.toks) fun b o e => hx b o (Nat.ne_of_lt (Heap.lt_size e)) e
  exact h.go pins _ σ H τ M ds vs _ Q I1 er sr (by simpa using rv) l q⟩
/-- o[i] = v on a list that may be changed -/
def setAt (M : Mp) (o i v : D) : Option Mp := match o, i with
  | .ref a, .int k => match M a with
    | some (.lst xs) => match L2.ixN xs.length k with
      | some j => some (put M a (.lst (xs.set j v)))
      | none => none
    | _ => none
  | _, _ => none
def gSub (to ti : DE) : DG := fun d τ M Q => to τ M (fun o M1 => ti τ M1 (fun i M2 => ok1 (setAt M2 o i d) fun M3 => Q τ M3) fun _ _ _ => False) fun _ _ _ => False
theorem monoG_sub {to ti : DE} (m : MonoE to) (n : MonoE ti) : MonoG (gSub to ti) := fun d τ M Q Q' h q =>
  m τ M _ _ _ _ (fun o M1 => n τ M1 _ _ _ _ (fun i M2 => ok1_mono fun M3 => h τ M3) fun _ _ _ z => z) (fun _ _ _ z => z) q
end
end DL

/-! Stores, loops. -/
namespace DL
open PySem PySem.Spec PyProof.Rows L2
section
variable {C : DC} {e a b c o i tg : Expr} {es : List Expr} {pos : Pos} {ta tb tc to ti te : DE} {st : Stmt} {rest sts body : List Stmt} {t u : DS}
theorem write_lst {H : Hp} {M : Mp} {p : Addr} {xs : List V} {ds es : List D} (sr : SR C H M) (hM : M p = some (.lst es)) (l : DenL C.X.K H M ds xs) : Go C H M (upd H p (.lst xs)) (put M p (.lst ds)) := by
  refine ⟨Keep.write hM (fun z => nomatch z), sr.abs.write hM (fun z => nomatch z) l, TabsUpd sr.tab ?_ fun _ z => nomatch z⟩
  obtain ⟨vs, e, _⟩ := sr.abs p _ hM
  exact .inr ⟨vs, e⟩
theorem setAt_some {M M' : Mp} {o i v : D} (h : setAt M o i v = some M') : ∃ a k xs j, o = .ref a ∧ i = .int k ∧ M a = some (.lst xs) ∧ L2.ixN xs.length k = some j ∧ M' = put M a (.lst (xs.set j v)) := by
  cases o <;> cases i <;> simp only [setAt, reduceCtorEq] at h
  rename_i a k
  split at h <;> try cases h
  rename_i xs hx
  split at h <;> try cases h
  rename_i j hj
  exact ⟨a, k, xs, j, rfl, rfl, hx, hj, rfl⟩
theorem dg_sub (ho : DPE C o to) (hi : DPE C i ti) (ha : ∀ v, assign (.Subscript o i pos) C.X.env v = (do
      let ov ← holding [v] (eval o C.X.env)
      let iv ← holding [v, ov] (eval i C.X.env)
      standAt pos
      holding [v, ov, iv] (setItem ov iv v)
      release [v, ov, iv] []) := by intro _; rfl) : DPG C (.Subscript o i pos) (gSub to ti) :=
  ⟨monoG_sub ho.mono hi.mono, fun pins s σ H τ M d v u Q I er sr r dn q => by
  rw [ha]
  refine wpAny_bind (wpAny_holding (thn (ho.go pins s σ H τ M _ I er sr (ho.mono _ _ _ _ _ _ (fun _ _ z => z) (fun _ _ _ z => z.elim) q)) fun ov s1 ⟨x1, H1, d1, M1, I1, r1, g1, dn1, q1⟩ => ?_))
  refine wpAny_bind (wpAny_holding (thn (hi.go pins s1 σ H1 τ M1 _ I1 (er.keep g1.keep) (sr.go g1) (hi.mono _ _ _ _ _ _ (fun _ _ z => z) (fun _ _ _ z => z.elim) q1)) fun iv s2 ⟨x2, H2, d2, M2, I2, r2, g2, dn2, q2⟩ => ?_))
  obtain ⟨M3, e3, q3⟩ := ok1_ex q2
  have dn1' := Den.keep g2.keep _ dn1
  have dv := Den.keep (g1.trans g2).keep _ dn
  obtain ⟨p, k, xs, j, rfl, rfl, hp, hj, rfl⟩ := setAt_some e3
  simp only [Den] at dn1' dn2
  subst dn1'; subst dn2
  have sr2 := (sr.go g1).go g2
  obtain ⟨vs, hH, l⟩ := sr2.abs p _ hp
  have hl := l.length
  have g3 := write_lst sr2 hp (l.set (i := j) dv)
  refine wpAny_bind (wpAny_standAt (wpAny_bind (wpAny_holding (thn (set_list pins s2 σ H2 _ _ v ov iv u (fun H3 => H3 = upd H2 p (.lst (vs.set j v))) I2 r1 r2 r ⟨p, vs, k, j, rfl, rfl, hH, by rw [hl]; exact hj, rfl⟩) fun _ s3 ⟨H3, I3, e⟩ => ?_))))
  subst e
  exact wpAny_release ⟨σ, _, τ, _, I3, er.keep ((g1.trans g2).trans g3).keep, (g1.trans g2).trans g3, q3⟩⟩

/-! ### stores -/
def sAsg (te : DE) (g : DG) : DS := fun D τ M => te τ M (fun d M1 => g d τ M1 D.nx) fun c fs M1 => D.ex c fs τ M1
theorem monoS_asg {g : DG} (m : MonoE te) (n : MonoG g) : MonoS (sAsg te g) := fun a b τ M h q => m τ M _ _ _ _ (fun d M1 => n d τ M1 _ _ h.nx) (fun c fs M1 => h.ex c fs τ M1) q
theorem ds_asg {g : DG} (he : DPE C e te) (hg : DPG C tg g) (hs : swapsWithSole [tg] e pos.line C.X.env = pure false := by rfl) (hw : swappedStores [tg] e C.X.env = pure none := by rfl) (h1 : (assignEach [tg] C.X.env).map (·.2) = [assign tg C.X.env] := by rfl) : DPS C (.Assign [tg] e pos) (sAsg te g) :=
  ⟨monoS_asg he.mono hg.mono, fun pins s σ H τ M D I er sr q => by
  refine wpAny_Assign_stores (thn (he.go pins s σ H τ M _ I er sr q) fun v s1 ⟨x, H1, d, M1, I1, r1, g1, dn1, q1⟩ => ?_) hs hw
  rw [h1]
  exact thn (hg.go pins s1 σ H1 τ M1 d x v _ I1 (er.keep g1.keep) (sr.go g1) r1 dn1 q1) fun _ s2 ⟨σ2, H2, τ2, M2, I2, er2, g2, q2⟩ => ⟨σ2, H2, τ2, M2, I2, er2, g1.trans g2, q2⟩⟩
theorem ds_set {j : Nat} {x : Str} {pos' : Pos} (he : DPE C e te) (hi : C.X.N[j]? = some x) (hx : Loc C.X.env.scope x) (hs : swapsWith e (some (.Name x pos')) pos.line C.X.env = pure false := by rfl) (hf : C.X.fn x = true ∨ C.X.env.scope.names.lookup x = some .local := by first | exact .inl rfl | exact .inr rfl | assumption) :
    DPS C (.Assign [.Name x pos'] e pos) (sAsg te (gVar j)) :=
  ⟨monoS_asg he.mono monoG_var, fun pins s σ H τ M D I er sr q => by
  refine wpAny_Assign_Name (thn (he.go pins s σ H τ M _ I er sr q) fun v s1 ⟨y, H1, d, M1, I1, r1, g1, dn1, q1⟩ => ?_) hs
  exact store_ok I1 C.nd hi hx r1 (fun s2 I2 => ⟨_, H1, _, M1, I2, by rw [setV_set]; exact (er.keep g1.keep).set dn1, g1, q1⟩) hf⟩
/-- a, b = x, y with plain local names -/
def sPar (i j : Nat) (t : DA) : DS := fun D τ M => t τ M (fun ds M1 => match ds with
  | [x, y] => D.nx (setV (setV τ i (some x)) j (some y)) M1
  | _ => False) fun c fs M1 => D.ex c fs τ M1
theorem monoS_par {i j : Nat} {t : DA} (m : MonoA t) : MonoS (sPar i j t) := fun a b τ M h q => m τ M _ _ _ _ (fun ds M1 z => by
  revert z
  split
  · exact h.nx _ _
  · exact id) (fun c fs M1 => h.ex c fs τ M1) q

/-! ### what is walked -/
/-- an iterator that yields the data ds one behind the other, while ok holds of what changed -/
structure Feeds (C : DC) (J : It) (ds : List D) (ok : Mp → Prop) (H0 : Hp) (M0 : Mp) : Prop where
  size : ds.length ≤ sizeLine
  step : ∀ (i : Nat) (H : Hp) (M : Mp) (d : D), Go C H0 M0 H M → ok M → ds[i]? = some d → J.go i H ∧ ∀ x H', J.yld i H x H' → Go C H M H' M ∧ Den C.X.K H' M d x
  stop : ∀ (i : Nat) (H : Hp) (M : Mp), Go C H0 M0 H M → ok M → ds.length ≤ i → J.stop i H
/-- what a loop walks: the data, what must stay, what changed -/
abbrev DI := Sd → Mp → (List D → (Mp → Prop) → Mp → Prop) → DX → Prop
def MonoI (t : DI) : Prop := ∀ (τ : Sd) (M : Mp) (Q Q' : List D → (Mp → Prop) → Mp → Prop) (E E' : DX), (∀ ds ok M', Q ds ok M' → Q' ds ok M') → (∀ c fs M', E c fs M' → E' c fs M') → t τ M Q E → t τ M Q' E'
def PID (C : DC) (pins : List (Addr × Obj)) (σ : L2.St) (tg : Expr) (H : Hp) (M : Mp) (Q : List D → (Mp → Prop) → Mp → Prop) (itv : Value) (s2 : Shared) : Prop :=
  ∃ (it : Addr) (fp : List Addr) (tn : Nat → Heap → Prop) (J : It) (H' : Hp) (ds : List D) (ok : Mp → Prop) (M' : Mp), itv = .ref it ∧ Inv C.X pins σ H' s2 ∧ Turn C.X.prog C.X.w C.X.K tg J fp it tn ∧ tn 0 s2.heap ∧ (∀ b ∈ fp, FpOk C.X pins H' b) ∧ Go C H M H' M' ∧ Feeds C J ds ok H' M' ∧ Q ds ok M'
structure DPI (C : DC) (tg iter : Expr) (t : DI) : Prop where
  mono : MonoI t
  go : ∀ (pins : List (Addr × Obj)) (s : Shared) (σ : L2.St) (H : Hp) (τ : Sd) (M : Mp) (Q : List D → (Mp → Prop) → Mp → Prop), Inv C.X pins σ H s → EnvR C.X.K H M τ σ → SR C H M → t τ M Q (xw C τ) →
    wpAny (model C.X.prog C.X.w) C.X.A (eval iter C.X.env) (fun v s1 => wpAny (model C.X.prog C.X.w) C.X.A (pyIter v) (PID C pins σ tg H M Q) C.X.xe s1) C.X.xe s
theorem dpi_run {wi : TI} {t : DI} (m : MonoI t) (h : PI C.X tg e wi) (hi : ∀ (pins : List (Addr × Obj)) (s : Shared) (σ : L2.St) (H : Hp) (τ : Sd) (M : Mp) (Q : List D → (Mp → Prop) → Mp → Prop), Inv C.X pins σ H s → EnvR C.X.K H M τ σ → SR C H M → t τ M Q (xw C τ) →
    wi σ H fun J H' => ∃ ds ok M', Go C H M H' M' ∧ Feeds C J ds ok H' M' ∧ Q ds ok M') : DPI C tg e t :=
  ⟨m, fun pins s σ H τ M Q I er sr q => thn (h.run pins s σ H _ I (hi pins s σ H τ M Q I er sr q)) fun v s1 h1 => thn h1 fun itv s2 ⟨it, fp, tn, J, H', e, I2, T, st, f, ds, ok, M', g, fe, q'⟩ => ⟨it, fp, tn, J, H', ds, ok, M', e, I2, T, st, f, g, fe, q'⟩⟩
/-- the loop, turn by turn -/
def forT (ok : Mp → Prop) (g : DG) (tb : DS) (En : DEnds) : List D → Sd → Mp → Prop
  | [], τ, M => ok M ∧ En.nx τ M
  | d :: ds, τ, M => ok M ∧ g d τ M fun τ' M' => tb { En with nx := forT ok g tb En ds, ct := forT ok g tb En ds, bk := En.nx } τ' M'
def sFor (wi : DI) (g : DG) (tb : DS) : DS := fun En τ M => wi τ M (fun ds ok M1 => forT ok g tb En ds τ M1) fun c fs M1 => En.ex c fs τ M1
theorem monoF {ok : Mp → Prop} {g : DG} {tb : DS} (mg : MonoG g) (mb : MonoS tb) {a b : DEnds} (h : a.Le b) : ∀ (ds : List D) (τ : Sd) (M : Mp), forT ok g tb a ds τ M → forT ok g tb b ds τ M
  | [], τ, M, q => ⟨q.1, h.nx _ _ q.2⟩
  | d :: ds, τ, M, q => ⟨q.1, mg d τ M _ _ (fun τ' M' z => mb { a with nx := forT ok g tb a ds, ct := forT ok g tb a ds, bk := a.nx } { b with nx := forT ok g tb b ds, ct := forT ok g tb b ds, bk := b.nx } τ' M' ⟨fun τ2 M2 => monoF mg mb h ds τ2 M2, h.rt, h.nx, fun τ2 M2 => monoF mg mb h ds τ2 M2, h.ex⟩ z) q.2⟩
theorem monoS_for {wi : DI} {g : DG} {tb : DS} (mi : MonoI wi) (mg : MonoG g) (mb : MonoS tb) : MonoS (sFor wi g tb) := fun a b τ M h q =>
  mi τ M _ _ _ _ (fun ds ok M1 z => monoF mg mb h ds τ M1 z) (fun c fs M1 => h.ex c fs τ M1) q
theorem ds_for {iter : Expr} {wi : DI} {g : DG} {tb : DS} (hc : C.X.calm = true) (hi : DPI C tg iter wi) (hg : DPG C tg g) (hb : DPSs C body tb) (hs : ∀ x, foldedSetIterable iter C.X.env x = pure x := by intro _; rfl) : DPS C (.For tg iter body [] pos) (sFor wi g tb) :=
  ⟨monoS_for hi.mono hg.mono hb.mono, fun pins s σ H τ M D I er sr q => by
  refine wpAny_For (thn (hi.go pins s σ H τ M _ I er sr q) fun v s1 h1 => thn h1 fun itv s2 h2 => ?_) hs
  obtain ⟨it, fp, tn, J, H2, ds, ok, M2, rfl, I2, T, st2, f2, g2, fe, q2⟩ := h2
  have stat : ∀ {H' : Hp}, (∀ b ∈ fp, H' b = none) → ∀ b ∈ fp, FpOk C.X pins H' b := fun hn b hb => ⟨hn b hb, (f2 b hb).2⟩
  refine codeAny_forLoop_any (fun n s' => ∃ i σ' H' τ' M', i ≤ ds.length ∧ n = ds.length - i ∧ Inv C.X pins σ' H' s' ∧ EnvR C.X.K H' M' τ' σ' ∧ Go C H2 M2 H' M' ∧ tn i s'.heap ∧ (∀ b ∈ fp, H' b = none) ∧ forT ok g tb { D with ex := C.W } (ds.drop i) τ' M') ?_ ds.length
    ⟨0, σ, H2, τ, M2, Nat.zero_le _, rfl, I2, er.keep g2.keep, Go.refl (sr.go g2), st2, fun b hb => (f2 b hb).1, q2⟩
  rintro n s3 ⟨i, σ3, H3, τ3, M3, hi3, rfl, I3, er3, g3, st3, fr3, w3⟩
  have sr3 := (sr.go g2).go g3
  by_cases hlt : i < ds.length
  · rw [List.drop_eq_getElem_cons hlt] at w3
    obtain ⟨ok3, w3⟩ := w3
    obtain ⟨go, yl⟩ := fe.step i H3 M3 ds[i] g3 ok3 (by simp [hlt])
    refine wpAny_passesOwn C.po (thn (T.item C.X rfl rfl rfl hc i pins s3 σ3 H3 C.X.xe I3 (stat fr3) st3 go) fun r s4 ⟨u, hr, h4⟩ => ?_)
    subst hr
    refine wpAny_passesOwn C.po (thn h4 fun _ s5 ⟨x, H5, I5, r5, y5, st5, fr5⟩ => ?_)
    obtain ⟨g5, dn5⟩ := yl x H5 y5
    have I5' := I5.pinned (stat fr5) (T.obj _ _ st5)
    refine wpAny_passesOwn C.po (thn (hg.go _ s5 σ3 H5 τ3 M3 ds[i] x u _ I5' (er3.keep g5.keep) (sr3.go g5) r5 dn5 w3) fun _ s6 ⟨σ6, H6, τ6, M6, I6, er6, g6, q6⟩ => ?_)
    refine wpAny_passesOwn C.po (thn (hb.go _ s6 σ6 H6 τ6 M6 { D with nx := forT ok g tb { D with ex := C.W } (ds.drop (i + 1)), ct := forT ok g tb { D with ex := C.W } (ds.drop (i + 1)), bk := D.nx } I6 er6 ((sr3.go g5).go g6) q6) fun f s7 q7 => ?_)
    have g56 := g5.trans g6
    have again : ∀ {σ7 : L2.St} {H7 : Hp} {τ7 : Sd} {M7 : Mp}, Inv C.X (pins ++ pinsAt fp s5.heap) σ7 H7 s7 → EnvR C.X.K H7 M7 τ7 σ7 → Go C H6 M6 H7 M7 → forT ok g tb { D with ex := C.W } (ds.drop (i + 1)) τ7 M7 →
        ∃ m, m < ds.length - i ∧ ∃ i σ' H' τ' M', i ≤ ds.length ∧ m = ds.length - i ∧ Inv C.X pins σ' H' s7 ∧ EnvR C.X.K H' M' τ' σ' ∧ Go C H2 M2 H' M' ∧ tn i s7.heap ∧ (∀ b ∈ fp, H' b = none) ∧ forT ok g tb { D with ex := C.W } (ds.drop i) τ' M' := fun {σ7 H7 τ7 M7} I7 er7 g7 n7 => by
      refine ⟨ds.length - (i + 1), by omega, i + 1, σ7, H7, τ7, M7, hlt, rfl, I7.unpinned, er7, g3.trans (g56.trans g7), T.keep _ _ _ st5 fun b hb o e => (I7.pin (b, o) (List.mem_append_right _ (List.mem_append_right _ (mem_pinsAt hb e)))).1, fun b hb => ?_, n7⟩
      obtain ⟨o, e, d⟩ := T.obj _ _ st5 b hb
      exact (I7.pin (b, o) (List.mem_append_right _ (List.mem_append_right _ (mem_pinsAt hb e)))).2.1
    have gall := ((g2.trans g3).trans g56)
    cases f with
    | next => obtain ⟨σ7, H7, τ7, M7, I7, er7, g7, n7⟩ := q7; exact again I7 er7 g7 n7
    | cont => obtain ⟨σ7, H7, τ7, M7, I7, er7, g7, n7⟩ := q7; exact again I7 er7 g7 n7
    | brk => obtain ⟨σ7, H7, τ7, M7, I7, er7, g7, q7⟩ := q7; exact ⟨σ7, H7, τ7, M7, I7.unpinned, er7, gall.trans g7, q7⟩
    | ret v => obtain ⟨x7, σ7, H7, d7, M7, I7, r7, g7, dn7, q7⟩ := q7; exact ⟨x7, σ7, H7, d7, M7, I7.unpinned, r7, gall.trans g7, dn7, q7⟩
  · have e : i = ds.length := by omega
    subst e
    rw [List.drop_length] at w3
    obtain ⟨ok3, w3⟩ := w3
    refine wpAny_passesOwn C.po (thn (T.done C.X rfl rfl rfl hc _ pins s3 σ3 H3 C.X.xe I3 (stat fr3) st3 (fe.stop _ H3 M3 g3 ok3 (Nat.le_refl _))) fun r s4 ⟨hr, I4⟩ => ?_)
    subst hr
    exact wpAny_execs_nil ⟨σ3, H3, τ3, M3, I4, er3, g2.trans g3, w3⟩⟩
end
end DL

/-! What loops and comprehensions walk; while. -/
namespace DL
open PySem PySem.Spec PyProof.Rows L2
section
variable {C : DC} {e a b c tg : Expr} {es elts : List Expr} {p pos tpos : Pos} {te ta tb : DE} {kk : Nat}
def liftA (C : DC) (t : DA) : TA := fun σ H Q => ∃ τ M, EnvR C.X.K H M τ σ ∧ SR C H M ∧ t τ M (fun ds M' => ∀ vs H', Go C H M H' M' → DenL C.X.K H' M' ds vs → Q vs H') (xw C τ)
theorem DPA.pa {t : DA} (h : DPA C es t) : PA C.X es (liftA C t) := ⟨fun pos pins s σ H Q I ⟨τ, M, er, sr, q⟩ =>
  thn (h.go pos pins s σ H τ M _ I er sr q) fun u s' ⟨v, H', d, M', I', r, g, dn, q'⟩ => ⟨v, H', I', r, q' v H' g dn⟩⟩
theorem DenL.one {K : PySem.W.Frag} {H : Hp} {M : Mp} {d : D} {vs : List V} (h : DenL K H M [d] vs) : ∃ v, vs = [v] ∧ Den K H M d v := by
  simp only [DenL] at h
  obtain ⟨v, r, rfl, x, rfl⟩ := h
  exact ⟨v, rfl, x⟩
theorem DenL.two {K : PySem.W.Frag} {H : Hp} {M : Mp} {d e : D} {vs : List V} (h : DenL K H M [d, e] vs) : ∃ v w, vs = [v, w] ∧ Den K H M d v ∧ Den K H M e w := by
  simp only [DenL] at h
  obtain ⟨v, r, rfl, x, w, q, rfl, y, rfl⟩ := h
  exact ⟨v, w, rfl, x, y⟩
theorem DenL.three {K : PySem.W.Frag} {H : Hp} {M : Mp} {d e f : D} {vs : List V} (h : DenL K H M [d, e, f] vs) : ∃ v w z, vs = [v, w, z] ∧ Den K H M d v ∧ Den K H M e w ∧ Den K H M f z := by
  simp only [DenL] at h
  obtain ⟨v, r, rfl, x, w, q, rfl, y, z, o, rfl, k, rfl⟩ := h
  exact ⟨v, w, z, rfl, x, y, k⟩

/-! ### a tuple, a list -/
/-- what must stay while d is walked -/
def okOf (d : D) (xs : List D) : Mp → Prop := match d with
  | .ref a => fun M => M a = some (.lst xs)
  | _ => fun _ => True
def iSeq (te : DE) : DI := fun τ M Q E => te τ M (fun d M1 => ok1 (items M1 d) fun xs => Q xs (okOf d xs) M1) E
theorem monoI_seq (m : MonoE te) : MonoI (iSeq te) := fun τ M Q Q' E E' h he q => m τ M _ _ _ _ (fun d M1 => ok1_mono fun xs => h _ _ _) he q
/-- a sequence at an address -/
theorem seq_of {H : Hp} {M : Mp} {d : D} {xs : List D} {v : V} (ab : Abs C.X.K H M) (dn : Den C.X.K H M d v) (e : items M d = some xs) :
    ∃ a vs, v = .ref a ∧ DenL C.X.K H M xs vs ∧
      (((∃ zs, d = .tup zs) ∧ SqT C.X.K H a vs ∧ ∀ H' M', Keep H M H' M' → SqT C.X.K H' a vs ∧ DenL C.X.K H' M' xs vs) ∨
       ((∀ zs, d ≠ .tup zs) ∧ SqL C.X.K H a vs ∧ ∀ H' M', Keep H M H' M' → Abs C.X.K H' M' → okOf d xs M' → ∃ ws, SqL C.X.K H' a ws ∧ DenL C.X.K H' M' xs ws)) := by
  cases d <;> simp only [items, reduceCtorEq, Option.some.injEq] at e
  case tup ds =>
    subst e
    simp only [Den] at dn
    obtain ⟨a, vs, rfl, t, l⟩ := dn
    exact ⟨a, vs, rfl, l, .inl ⟨⟨_, rfl⟩, t.sq, fun H' M' k => ⟨(t.keep k).sq, l.keep k⟩⟩⟩
  case lst ds =>
    subst e
    simp only [Den] at dn
    obtain ⟨a, vs, rfl, t0, l⟩ := dn
    exact ⟨a, vs, rfl, l, .inr ⟨(fun _ z => nomatch z), t0.sq, fun H' M' k _ _ => ⟨vs, (t0.keepR k.r).sq, l.keep k⟩⟩⟩
  case scr ds =>
    subst e
    simp only [Den] at dn
    obtain ⟨a, vs, rfl, t0, l⟩ := dn
    exact ⟨a, vs, rfl, l, .inr ⟨(fun _ z => nomatch z), t0.sq, fun H' M' k _ _ => ⟨vs, (t0.keepR k.r).sq, l.keep k⟩⟩⟩
  case ref a =>
    obtain ⟨ys, hM, ey⟩ : ∃ ys, M a = some (.lst ys) ∧ ys = xs := by
      split at e
      · rename_i hM; exact ⟨_, hM, Option.some.inj e⟩
      · cases e
    subst ey
    simp only [Den] at dn
    subst dn
    obtain ⟨vs, hH, l⟩ := ab a _ hM
    refine ⟨a, vs, rfl, l, .inr ⟨fun _ z => (nomatch z), .inl (.inl hH), fun H' M' k ab ok => ?_⟩⟩
    obtain ⟨ws, hw, l'⟩ := ab a _ (show M' a = some (.lst ys) from ok)
    exact ⟨ws, .inl (.inl hw), l'⟩
theorem di_seq (h : DPE C e te) : DPI C tg e (iSeq te) := ⟨monoI_seq h.mono, fun pins s σ H τ M Q I er sr q => by
  refine thn (h.go pins s σ H τ M _ I er sr q) fun v s1 ⟨x, H1, d, M1, I1, r1, g1, dn1, q1⟩ => ?_
  obtain ⟨xs, ex, q1⟩ := ok1_ex q1
  obtain ⟨a, vs, rfl, l, hs⟩ := seq_of (sr.go g1).abs dn1 ex
  obtain rfl : v = .ref a := r1
  have sr1 := sr.go g1
  have hl := l.length
  rcases hs with ⟨_, hq, stay⟩ | ⟨_, hq, stay⟩
  · obtain ⟨its, rv, pt, hz⟩ := I1.tuple hq
    rw [hl] at hz
    refine wpAny_pyIter_tuple (show s1.heap.IsTuple a its.toArray from pt) ?_
    refine ⟨s1.heap.objs.size, [s1.heap.objs.size], _, Itt C.X.K a, H1, xs, okOf d xs, M1, rfl, I1.kept (t' := s1.toks) fun b o e => Heap.get?_push_of_some _ e, turn_tuple a _, ⟨_, Heap.get?_push_size _ rfl, rfl, rfl⟩, fun b hb => ?_, g1, ⟨hz, fun i H M d' g ok hd => ?_, fun i H M g ok hi => ?_⟩, q1⟩
    · have e : b = s1.heap.objs.size := by simpa using hb
      subst e
      exact I1.fpOk (Nat.le_refl _) (I1.hok.fresh (Nat.le_refl _))
    · obtain ⟨h1, h2⟩ := stay H M g.keep
      obtain ⟨w, hw, dw⟩ := h2.get hd
      refine ⟨⟨vs, w, h1, hw⟩, fun x H' y => ?_⟩
      obtain ⟨rfl, y⟩ := y
      have := y vs h1
      rw [hw] at this; cases this
      exact ⟨SR.at g.abs g.tab, dw⟩
    · obtain ⟨h1, h2⟩ := stay H M g.keep
      exact ⟨vs, h1, by omega⟩
  · obtain ⟨its, rv, pl, hz⟩ := I1.list hq
    rw [hl] at hz
    refine wpAny_pyIter_list pl.isList ?_
    refine ⟨s1.heap.objs.size, [s1.heap.objs.size], _, Itl C.X.K a, H1, xs, okOf d xs, M1, rfl, I1.kept (t' := s1.toks) fun b o e => Heap.get?_push_of_some _ e, turn_list a _, ⟨_, Heap.get?_push_size _ rfl, rfl, rfl⟩, fun b hb => ?_, g1, ⟨hz, fun i H M d' g ok hd => ?_, fun i H M g ok hi => ?_⟩, q1⟩
    · have e : b = s1.heap.objs.size := by simpa using hb
      subst e
      exact I1.fpOk (Nat.le_refl _) (I1.hok.fresh (Nat.le_refl _))
    · obtain ⟨ws, h1, h2⟩ := stay H M g.keep g.abs ok
      obtain ⟨w, hw, dw⟩ := h2.get hd
      refine ⟨⟨ws, w, h1, hw⟩, fun x H' y => ?_⟩
      obtain ⟨rfl, y⟩ := y
      have := y ws h1
      rw [hw] at this; cases this
      exact ⟨SR.at g.abs g.tab, dw⟩
    · obtain ⟨ws, h1, h2⟩ := stay H M g.keep g.abs ok
      exact ⟨ws, h1, by rw [h2.length]; omega⟩⟩

/-! ### ranges -/
def rangeD (lo : Int) (n : Nat) : List D := (List.range n).map fun (k : Nat) => D.int (lo + k)
def rangeC (lo c : Int) (n : Nat) : List D := (List.range n).map fun (k : Nat) => D.int (lo + k * c)
def iRange1 (ta : DA) : DI := fun τ M Q E => ta τ M (fun ds M1 => match ds with
  | [.int j] => (-4000000000000000000 ≤ j ∧ j ≤ 16777216) ∧ Q (rangeD 0 j.toNat) (fun _ => True) M1
  | _ => False) E
def iRange2 (ta : DA) : DI := fun τ M Q E => ta τ M (fun ds M1 => match ds with
  | [.int i, .int j] => (-4000000000000000000 ≤ i ∧ i ≤ 4000000000000000000 ∧ -4000000000000000000 ≤ j ∧ j ≤ 4000000000000000000 ∧ j - i ≤ 16777216) ∧ Q (rangeD i (j - i).toNat) (fun _ => True) M1
  | _ => False) E
theorem feeds_range {lo : Int} {n : Nat} {H0 : Hp} {M0 : Mp} (hn : n ≤ 16777216) : Feeds C (Itr lo n) (rangeD lo n) (fun _ => True) H0 M0 where
  size := by rw [sizeLine_eq]; simpa [rangeD] using hn
  step := fun i H M d g _ hd => by
    have hi : i < n := by
      have := (List.getElem?_eq_some_iff.mp hd).1
      simpa [rangeD] using this
    refine ⟨hi, fun x H' y => ?_⟩
    obtain ⟨rfl, rfl⟩ := y
    have e : d = .int (lo + i) := by
      simp [rangeD, hi] at hd
      exact hd.symm
    subst e
    exact ⟨SR.at g.abs g.tab, by simp only [Den]⟩
  stop := fun i H M g _ hi => by
    have z : n ≤ i := by simpa [rangeD] using hi
    exact z
theorem feeds_rangeC {lo c : Int} {n : Nat} {H0 : Hp} {M0 : Mp} (hn : n ≤ 16777216) : Feeds C (Itc lo c n) (rangeC lo c n) (fun _ => True) H0 M0 where
  size := by rw [sizeLine_eq]; simpa [rangeC] using hn
  step := fun i H M d g _ hd => by
    have hi : i < n := by
      have := (List.getElem?_eq_some_iff.mp hd).1
      simpa [rangeC] using this
    refine ⟨hi, fun x H' y => ?_⟩
    obtain ⟨rfl, rfl⟩ := y
    have e : d = .int (lo + i * c) := by
      simp [rangeC, hi] at hd
      exact hd.symm
    subst e
    exact ⟨SR.at g.abs g.tab, by simp only [Den]⟩
  stop := fun i H M g _ hi => by
    have z : n ≤ i := by simpa [rangeC] using hi
    exact z
theorem monoI_range1 {t : DA} (m : MonoA t) : MonoI (iRange1 t) := fun τ M Q Q' E E' h he q => m τ M _ _ _ _ (fun ds M1 z => by
  revert z
  split
  · exact fun z => ⟨z.1, h _ _ _ z.2⟩
  · exact id) he q
theorem monoI_range2 {t : DA} (m : MonoA t) : MonoI (iRange2 t) := fun τ M Q Q' E E' h he q => m τ M _ _ _ _ (fun ds M1 z => by
  revert z
  split
  · exact fun z => ⟨z.1, h _ _ _ z.2⟩
  · exact id) he q
theorem di_range1 {t : DA} (hg : Gl C.X "range") (hm : C.X.mg "range" = none) (ha : DPA C [a] t) (hs : starEach [a] C.X.env = [(false, eval a C.X.env)] := by rfl) : DPI C tg (.Call (.Name "range" p) [a] [] pos) (iRange1 t) :=
  dpi_run (monoI_range1 ha.mono) (pi_range1 hg hm ha.pa hs) fun pins s σ H τ M Q I er sr q => ⟨τ, M, er, sr, ha.mono _ _ _ _ _ _ (fun ds M' z vs H' g l => by
    revert z
    split
    · rename_i j
      intro z
      obtain ⟨v, rfl, dn⟩ := l.one
      simp only [Den] at dn
      subst dn
      exact ⟨j, rfl, by omega, by omega, _, _, M', g, feeds_range (by omega), z.2⟩
    · exact fun z => z.elim) (fun _ _ _ z => z) q⟩
theorem di_range2 {t : DA} (hg : Gl C.X "range") (hm : C.X.mg "range" = none) (ha : DPA C [a, b] t) (hs : starEach [a, b] C.X.env = [(false, eval a C.X.env), (false, eval b C.X.env)] := by rfl) (hs2 : starEach [b] C.X.env = [(false, eval b C.X.env)] := by rfl) :
    DPI C tg (.Call (.Name "range" p) [a, b] [] pos) (iRange2 t) :=
  dpi_run (monoI_range2 ha.mono) (pi_range2 hg hm ha.pa hs hs2) fun pins s σ H τ M Q I er sr q => ⟨τ, M, er, sr, ha.mono _ _ _ _ _ _ (fun ds M' z vs H' g l => by
    revert z
    split
    · rename_i i j
      intro z
      obtain ⟨v, w, rfl, dn, dn2⟩ := l.two
      simp only [Den] at dn dn2
      subst dn; subst dn2
      exact ⟨i, j, rfl, ⟨by omega, by omega, by omega, by omega⟩, _, _, M', g, feeds_range (by omega), z.2⟩
    · exact fun z => z.elim) (fun _ _ _ z => z) q⟩

/-! ### zip of two lists, of two tuples: new pairs -/
def pairs : List D → List D → List D
  | x :: xs, y :: ys => .tup [x, y] :: pairs xs ys
  | _, _ => []
theorem pairs_get : ∀ {xs ys : List D} {i : Nat} {d : D}, (pairs xs ys)[i]? = some d → ∃ x y, xs[i]? = some x ∧ ys[i]? = some y ∧ d = .tup [x, y]
  | [], _, _, _, h => by simp [pairs] at h
  | _ :: _, [], _, _, h => by simp [pairs] at h
  | x :: xs, y :: ys, 0, d, h => by simp [pairs] at h; exact ⟨x, y, rfl, rfl, h.symm⟩
  | x :: xs, y :: ys, i + 1, d, h => by
    obtain ⟨x', y', a, b, e⟩ := pairs_get (xs := xs) (ys := ys) (i := i) (by simpa [pairs] using h)
    exact ⟨x', y', by simpa using a, by simpa using b, e⟩
theorem pairs_length : ∀ (xs ys : List D), (pairs xs ys).length = min xs.length ys.length
  | [], ys => by simp [pairs]
  | _ :: _, [] => by simp [pairs]
  | x :: xs, y :: ys => by simp [pairs, pairs_length xs ys]
/-- whether both are tuples or both are lists -/
def alikeSeq (M : Mp) : D → D → Bool
  | .tup _, .tup _ => true
  | .lst _, .lst _ => true
  | .lst _, .ref _ => true
  | .ref _, .lst _ => true
  | .ref _, .ref _ => true
  | _, _ => false
def iZip (ta : DA) : DI := fun τ M Q E => ta τ M (fun ds M1 => match ds with
  | [x, y] => alikeSeq M1 x y = true ∧ ok1 (items M1 x) fun xs => ok1 (items M1 y) fun ys => Q (pairs xs ys) (fun N => okOf x xs N ∧ okOf y ys N) M1
  | _ => False) E
theorem monoI_zip {t : DA} (m : MonoA t) : MonoI (iZip t) := fun τ M Q Q' E E' h he q => m τ M _ _ _ _ (fun ds M1 z => by
  revert z
  split
  · exact fun z => ⟨z.1, ok1_mono (fun xs => ok1_mono fun ys => h _ _ _) z.2⟩
  · exact id) he q
theorem dpi_run' {wi : TI} {t : DI} (m : MonoI t) (h : PI C.X tg e wi) (hi : ∀ (pins : List (Addr × Obj)) (s : Shared) (σ : L2.St) (H : Hp) (τ : Sd) (M : Mp) (Q : List D → (Mp → Prop) → Mp → Prop), Inv C.X pins σ H s → EnvR C.X.K H M τ σ → SR C H M → t τ M Q (xw C τ) →
    wi σ H fun J H' => ∃ ds ok M', Go C H M H' M' ∧ (∀ s2, Inv C.X pins σ H' s2 → Feeds C J ds ok H' M') ∧ Q ds ok M') : DPI C tg e t :=
  ⟨m, fun pins s σ H τ M Q I er sr q => thn (h.run pins s σ H _ I (hi pins s σ H τ M Q I er sr q)) fun v s1 h1 => thn h1 fun itv s2 ⟨it, fp, tn, J, H', e, I2, T, st, f, ds, ok, M', g, fe, q'⟩ => ⟨it, fp, tn, J, H', ds, ok, M', e, I2, T, st, f, g, fe s2 I2, q'⟩⟩
theorem di_zip {t : DA} (hg : Gl C.X "zip") (hm : C.X.mg "zip" = none) (ha : DPA C [a, b] t) (hs : starEach [a, b] C.X.env = (false, eval a C.X.env) :: starEach [b] C.X.env := by rfl) (hpl : (backTo pos (starEach [b] C.X.env)).any (·.1) = false := by rfl) :
    DPI C (.Tuple elts kk tpos) (.Call (.Name "zip" p) [a, b] [] pos) (iZip t) :=
  dpi_run' (monoI_zip ha.mono) (RZ.pi_zipA hg hm ha.pa hs hpl) fun pins s σ H τ M Q I er sr q => ⟨τ, M, er, sr, ha.mono _ _ _ _ _ _ (fun ds M' z vs H' g l => by
    revert z
    split
    · rename_i x y
      rintro ⟨al, z⟩
      obtain ⟨xs, ex, z⟩ := ok1_ex z
      obtain ⟨ys, ey, z⟩ := ok1_ex z
      obtain ⟨v, w, rfl, dn, dn2⟩ := l.two
      have sr' := sr.go g
      obtain ⟨a1, vs, rfl, l1, h1⟩ := seq_of sr'.abs dn ex
      obtain ⟨a2, ws, rfl, l2, h2⟩ := seq_of sr'.abs dn2 ey
      have hl1 := l1.length
      have hl2 := l2.length
      refine ⟨a1, a2, vs, ws, rfl, ?_⟩
      rcases h1 with ⟨⟨zs, k1⟩, h1, st1⟩ | ⟨k1, h1, st1⟩
      · rcases h2 with ⟨⟨zs', k2⟩, h2, st2⟩ | ⟨k2, h2, st2⟩
        · refine .inr ⟨h1, h2, _, _, M', g, fun s2 I2 => ?_, z⟩
          obtain ⟨_, _, _, hz⟩ := I2.tuple h1
          refine ⟨by rw [pairs_length]; omega, fun i H1 M1 d g1 ok hd => ?_, fun i H1 M1 g1 ok hi => ?_⟩
          · obtain ⟨dx, dy, hx, hy, rfl⟩ := pairs_get hd
            obtain ⟨q1, e1⟩ := st1 H1 M1 g1.keep
            obtain ⟨q2, e2⟩ := st2 H1 M1 g1.keep
            obtain ⟨x1, hx1, dx1⟩ := e1.get hx
            obtain ⟨y1, hy1, dy1⟩ := e2.get hy
            refine ⟨⟨_, _, x1, y1, q1, q2, hx1, hy1⟩, fun v H2 yl => ?_⟩
            obtain ⟨T, x2, y2, rfl, hT, rfl, f1, f2⟩ := yl
            have := f1 _ q1; rw [hx1] at this; cases this
            have := f2 _ q2; rw [hy1] at this; cases this
            exact new_tup (sr'.go g1) hT (.cons dx1 (.cons dy1 .nil))
          · obtain ⟨q1, e1⟩ := st1 H1 M1 g1.keep
            obtain ⟨q2, e2⟩ := st2 H1 M1 g1.keep
            exact ⟨_, _, q1, q2, by rw [pairs_length] at hi; omega⟩
        · subst k1
          cases y <;> simp only [alikeSeq, Bool.false_eq_true] at al
          exact absurd rfl (k2 _)
      · rcases h2 with ⟨⟨zs', k2⟩, h2, st2⟩ | ⟨k2, h2, st2⟩
        · subst k2
          cases x <;> simp only [alikeSeq, Bool.false_eq_true] at al
          exact absurd rfl (k1 _)
        · refine .inl ⟨h1, h2, _, _, M', g, fun s2 I2 => ?_, z⟩
          obtain ⟨_, _, _, hz⟩ := I2.list h1
          refine ⟨by rw [pairs_length]; omega, fun i H1 M1 d g1 ok hd => ?_, fun i H1 M1 g1 ok hi => ?_⟩
          · obtain ⟨dx, dy, hx, hy, rfl⟩ := pairs_get hd
            obtain ⟨us, q1, e1⟩ := st1 H1 M1 g1.keep g1.abs ok.1
            obtain ⟨us', q2, e2⟩ := st2 H1 M1 g1.keep g1.abs ok.2
            obtain ⟨x1, hx1, dx1⟩ := e1.get hx
            obtain ⟨y1, hy1, dy1⟩ := e2.get hy
            refine ⟨⟨_, _, x1, y1, q1, q2, hx1, hy1⟩, fun v H2 yl => ?_⟩
            obtain ⟨T, x2, y2, rfl, hT, rfl, f1, f2⟩ := yl
            have := f1 _ q1; rw [hx1] at this; cases this
            have := f2 _ q2; rw [hy1] at this; cases this
            exact new_tup (sr'.go g1) hT (.cons dx1 (.cons dy1 .nil))
          · obtain ⟨us, q1, e1⟩ := st1 H1 M1 g1.keep g1.abs ok.1
            obtain ⟨us', q2, e2⟩ := st2 H1 M1 g1.keep g1.abs ok.2
            have h1 := e1.length
            have h2 := e2.length
            exact ⟨_, _, q1, q2, by rw [pairs_length] at hi; omega⟩
    · exact fun z => z.elim) (fun _ _ _ z => z) q⟩
end
end DL

/-! Defs and their calls over data; while. -/
namespace DL
open PySem PySem.Spec PyProof.Rows L2
/-- a def's promise over data -/
abbrev DSp := List D → Mp → DK → DX → Prop
def MonoP (sp : DSp) : Prop := ∀ (ds : List D) (M : Mp) (Q Q' : DK) (E E' : DX), (∀ d M', Q d M' → Q' d M') → (∀ c fs M', E c fs M' → E' c fs M') → sp ds M Q E → sp ds M Q' E'
def qH (K : PySem.W.Frag) (T : List (Addr × Str)) (H : Hp) (M : Mp) (Q : DK) : VK := fun v H' => ∃ d M', (Keep H M H' M' ∧ Abs K H' M' ∧ LamX.Tabs T H') ∧ Den K H' M' d v ∧ Q d M'
def eH (K : PySem.W.Frag) (T : List (Addr × Str)) (H : Hp) (M : Mp) (E : DX) : XK := fun cls od H' => ∃ fs M', (Keep H M H' M' ∧ Abs K H' M' ∧ LamX.Tabs T H') ∧ XDen K H' M' od fs ∧ E cls fs M'
structure FnG (P : Program) (w : World) (K : PySem.W.Frag) (mg : Str → Option Value) (base : Heap) (T : List (Addr × Str)) (gb : Bool) (k : Nat) (f : Addr) (fd : FuncData) (ps : List Str) (sp : DSp) : Prop where
  len : ∀ ds M Q E, sp ds M Q E → ds.length = ps.length
  mono : MonoP sp
  run : ∀ (A : Around) (outer : List Env) (s : Shared) (H : Hp) (M : Mp) (args : Args) (us : List Value) (vs : List V) (ds : List D) (Q : DK) (E : DX), Room k A → (gb = true → A.guards = some []) → Env0 P w K mg base A outer s H → BindsTo s fd args (ps.zip us) → Vals vs us → DenL K H M ds vs → Abs K H M → LamX.Tabs T H → sp ds M Q E →
    codeAny (model P w) A (.call (.ref f) args) (CR (L2.CX P w) outer P w H s (qH K T H M Q) (eH K T H M E)) s
section
variable {P : Program} {w : World} {K : PySem.W.Frag} {mg : Str → Option Value} {base : Heap} {T : List (Addr × Str)}
theorem XDen.sub {H : Hp} {M N : Mp} {od : Option Addr} {fs : DFs} (x : XDen K H M od fs) (sb : Sub N M) : XDen K H N od fs := by
  rcases x with x | ⟨d, gs, a, b, c, f, nf⟩
  · exact .inl x
  · exact .inr ⟨d, gs, a, b, sb.free c, f.keep (Keep.sub sb), nf⟩
theorem XDen.keep {H H' : Hp} {M M' : Mp} {od : Option Addr} {fs : DFs} (k : Keep H M H' M') (x : XDen K H M od fs) : XDen K H' M' od fs := by
  rcases x with x | ⟨d, gs, a, b, c, f, nf⟩
  · exact .inl x
  · obtain ⟨n, e⟩ := k.at0 c b fun _ z => nomatch z
    exact .inr ⟨d, gs, a, e, n, f.keep k, nf⟩
/-- what is told may be told so -/
def Cv (d : D) (M : Mp) (d' : D) (M' : Mp) : Prop := Sub M' M ∧ ∀ (K : PySem.W.Frag) (H : Hp) (v : V), Abs K H M → Den K H M d v → Den K H M' d' v
theorem Cv.sub {d : D} {M M' : Mp} (h : Sub M' M) : Cv d M d M' := ⟨h, fun K H v _ q => Den.keep (Keep.sub h) d q⟩
theorem Cv.refl {d : D} {M : Mp} : Cv d M d M := Cv.sub Sub.refl
theorem Cv.trans {d e f : D} {M N R : Mp} (a : Cv d M e N) (b : Cv e N f R) : Cv d M f R := ⟨b.1.trans a.1, fun K H v x q => b.2 K H v (x.sub a.1) (a.2 K H v x q)⟩
theorem Cv.fix {p : Addr} {M : Mp} {xs : List D} (h : M p = some (.lst xs)) : Cv (.ref p) M (.lst xs) (del M p) := ⟨Sub.of_del, fun K H v x q => by
  simp only [Den] at q
  subst q
  exact Den.fix x h⟩
/-- a def's own context -/
def ctxOf (P : Program) (w : World) (K : PySem.W.Frag) (mg : Str → Option Value) (base : Heap) (T : List (Addr × Str)) (gb : Bool) (k : Nat) (N : List Str) (qual : Str) (scope : Scope) (f : Addr) (cdv : Value) (A : Around) (outer : List Env) (s : Shared) (H : Hp) (M : Mp) (E : DX)
    (hr : Room k (A.deeper (envOfC qual scope s.heap.objs.size f cdv))) (hg : gb = true → A.guards = some []) (nd : N.Nodup) : DC where
  X := cxOf (L2.CX P w) P w K mg base N qual scope f cdv A outer s H (eH K T H M E)
  T := T
  H0 := H
  M0 := M
  W := fun cls fs _ M' => ∃ N', Sub N' M' ∧ E cls fs N'
  J := fun _ _ => True
  Jk := fun _ _ _ _ _ _ => trivial
  lv := k
  dp := hr.dp
  un := hr.un
  gb := gb
  gd := hg
  nd := nd
  po := PassesOwn.leaving
  tk := (takes_of (E := eH K T H M E) rfl rfl rfl rfl).imp fun cls od σ H' ⟨τ, M', fs, _, ⟨g1, g2, g3⟩, x, N', sb, e⟩ => ⟨fs, N', ⟨g1.trans (Keep.sub sb), g2.sub sb, g3⟩, x.sub sb, e⟩
def endF (Q : DK) (E : DX) : DEnds := { nx := fun _ M' => ∃ N', Sub N' M' ∧ Q .non N', rt := fun d M' => ∃ d' N', Cv d M' d' N' ∧ Q d' N', ex := fun c fs _ M' => ∃ N', Sub N' M' ∧ E c fs N' }
/-- THE RULE for a def: a derivation of its body, whatever the context; the reading of its transformer -/
theorem fng_of {gb : Bool} {x qual : Str} {st : Stmt} {f : Addr} {fd : FuncData} {N ps : List Str} {k : Nat} {sp : DSp} {t : DS} (F : Fun K x qual st f fd) (S : FnScope N ps (defScope st)) (len : ∀ ds M Q E, sp ds M Q E → ds.length = ps.length) (mono : MonoP sp)
    (hbody : ∀ (cdv : Value) (A : Around) (outer : List Env) (s : Shared) (H : Hp) (M : Mp) (E : DX) (hr : Room k (A.deeper (envOfC qual (defScope st) s.heap.objs.size f cdv))) (hg : gb = true → A.guards = some []),
      DPSs (ctxOf P w K mg base T gb k N qual (defScope st) f cdv A outer s H M E hr hg S.nd) (defBody st) t)
    (hsp : ∀ (ds : List D) (M : Mp) (Q : DK) (E : DX), sp ds M Q E → t (endF Q E) (startD N ds) M) :
    FnG P w K mg base T gb (k + 1) f fd ps sp := by
  obtain ⟨oc, od, kV, doc, pm, an, cdv, ct, osl, rfl, lk, hcd⟩ := F.ex
  refine ⟨len, mono, fun A outer s H M args us vs ds Q E hr hg e0 hb r l ab tb q => ?_⟩
  refine LamX.run_ofS (N := N) lk hcd S hr e0 hb r (by rw [l.length]; exact len _ _ _ _ q) fun hr' => ?_
  have hd := hbody cdv A outer s H M E hr' hg
  refine ⟨_, hd.pss, startD N ds, M, EnvR.start l, ⟨Keep.refl, ab, tb, trivial⟩, ?_⟩
  refine hd.mono (endF Q E) _ _ _ ⟨fun τ' M' ⟨N', sb, q⟩ σ' H' er g => ?_, fun d M' ⟨d', N', ⟨sb, cv⟩, q⟩ v H' g dn => ?_, fun _ _ z => z.elim, fun _ _ z => z.elim, fun _ _ _ _ z => z⟩ (hsp ds M Q E q)
  · exact ⟨.non, N', ⟨g.keep.trans (Keep.sub sb), g.abs.sub sb, g.tab⟩, by simp only [Den], q⟩
  · exact ⟨d', N', ⟨g.keep.trans (Keep.sub sb), g.abs.sub sb, g.tab⟩, cv K H' v g.abs dn, q⟩
end
section
variable {C : DC} {e a : Expr} {es : List Expr} {x : Str} {p pos : Pos} {f : Addr} {fd : FuncData} {ps : List Str} {sp : DSp} {k : Nat} {gb : Bool} {t : DA} {body : List Stmt} {tb : DS}
theorem run_fnG {pins : List (Addr × Obj)} {σ : L2.St} {H H0 : Hp} {M M0 : Mp} {s : Shared} {Q : DK} {us : List Value} {vs : List V} {ds : List D} {τ : Sd} (F : FnG C.X.prog C.X.w C.X.K C.X.mg C.X.base C.T gb k f fd ps sp) (hgb : gb = true → C.gb = true) (hk : k ≤ C.lv) (hc : C.X.calm = true) (hb : Binds C.X.K fd ps [])
    (I : Inv C.X pins σ H s) (sr0 : SR C H0 M0) (g0 : Go C H0 M0 H M) (er : EnvR C.X.K H M τ σ) (r : Vals vs us) (l : DenL C.X.K H M ds vs) (q : sp ds M Q (xw C τ)) : wpAny (model C.X.prog C.X.w) C.X.A (call (.ref f) us) (EPD C pins σ H0 M0 Q) C.X.xe s := by
  have hl : us.length = ps.length := by rw [← r.length, l.length]; exact F.len _ _ _ _ q
  have b := hb s us I.kIn (by rw [List.append_nil]; exact hl)
  rw [List.append_nil] at b
  refine wpAny_call (codeAny_mono (F.run C.X.A C.X.stack s H M ⟨us, []⟩ us vs ds Q (xw C τ) ((C.room I hc).mono hk) (fun h => C.gd (hgb h)) I.env0 b r l g0.abs g0.tab q) fun r s' hq => ?_)
  cases r with
  | error e =>
    obtain ⟨a, B, H', cls, d, he, fl, hok, ub, na, os, ag, fs, M', ⟨k1, k2, k3⟩, xd, w⟩ := hq
    exact passAt C.tk σ pins H s e s' I ⟨a, B, H', cls, d, he, fl, hok, ub, na, os, ag, τ, M', fs, er.keep k1, ⟨(sr0.go g0).keep.trans k1, k2, k3⟩, xd, w⟩
  | ok fl =>
    cases fl with
    | ret u =>
      obtain ⟨v, H', I', rv, d, M', ⟨k1, k2, k3⟩, dn, q'⟩ := I.after hq
      exact ⟨v, H', d, M', I', rv, g0.trans ⟨k1, k2, k3⟩, dn, q'⟩
    | next => exact False.elim hq
    | brk => exact False.elim hq
    | cont => exact False.elim hq
def dCall (sp : DSp) (t : DA) : DE := fun τ M Q E => t τ M (fun ds M1 => sp ds M1 Q E) E
theorem mono_call (m : MonoP sp) (n : MonoA t) : MonoE (dCall sp t) := fun τ M Q Q' E E' h he q => n τ M _ _ _ _ (fun ds M1 => m ds M1 _ _ _ _ h he) he q
theorem de_call (F : FnG C.X.prog C.X.w C.X.K C.X.mg C.X.base C.T gb k f fd ps sp) (hgb : gb = true → C.gb = true) (hk : k ≤ C.lv) (hc : C.X.calm = true) (hg : Gl C.X x) (hm : C.X.mg x = some (.ref f)) (hp : PySem.W.keepIn C.X.K (.ref f) = true) (hb : Binds C.X.K fd ps [])
    (ha : DPA C (e :: es) t) (hdb : (x == ("__debug__" : Str)) = false := by decide) (he : starEach (e :: es) C.X.env = (false, eval e C.X.env) :: starEach es C.X.env := by rfl) (hpl : (backTo pos (starEach es C.X.env)).any (·.1) = false := by rfl) :
    DPE C (.Call (.Name x p) (e :: es) [] pos) (dCall sp t) := ⟨mono_call F.mono ha.mono, fun pins s σ H τ M Q I er sr q => by
  refine wpAny_Call_Name_kw (ld_glob I hg hm ?_ hdb)
  refine PySem.W.callWith_K (h₀ := C.X.base) I.ok.mod.kin hp (thn (ha.go pos pins s σ H τ M _ I er sr q) fun us s1 ⟨vs, H1, ds, M1, I1, r, g, l, q1⟩ => ⟨I1.kIn, ?_⟩) he hpl
  exact run_fnG F hgb hk hc hb I1 sr g (er.keep g.keep) r l q1⟩
theorem de_call0 (F : FnG C.X.prog C.X.w C.X.K C.X.mg C.X.base C.T gb k f fd ps sp) (hgb : gb = true → C.gb = true) (hk : k ≤ C.lv) (hc : C.X.calm = true) (hg : Gl C.X x) (hm : C.X.mg x = some (.ref f)) (hp : PySem.W.keepIn C.X.K (.ref f) = true) (hb : Binds C.X.K fd ps [])
    (hdb : (x == ("__debug__" : Str)) = false := by decide) : DPE C (.Call (.Name x p) [] [] pos) (dCall sp dNil) := ⟨mono_call F.mono mono_nil, fun pins s σ H τ M Q I er sr q => by
  refine wpAny_Call_Name_kw (ld_glob I hg hm ?_ hdb)
  exact PySem.W.callWith_K0 I.kIn hp (run_fnG (us := []) F hgb hk hc hb I sr (Go.refl sr) er .nil DenL.nil q)⟩

/-! ### while -/
def sWhile (c : DT) (tb : DS) : DS := fun En τ M => ∃ W : Nat → Sd → Mp → Prop, (∃ m, W m τ M) ∧ ∀ m τ M, W m τ M →
  c τ M (fun b M1 => if b = true then tb { En with nx := fun τ' M' => ∃ m', m' < m ∧ W m' τ' M', ct := fun τ' M' => ∃ m', m' < m ∧ W m' τ' M', bk := En.nx } τ M1 else En.nx τ M1) fun c fs M1 => En.ex c fs τ M1
theorem monoS_while {c : DT} (m : MonoT c) (n : MonoS tb) : MonoS (sWhile c tb) := fun a b τ M h ⟨W, w0, turn⟩ => ⟨W, w0, fun i τ M w => m τ M _ _ _ _ (fun k M1 z => by
  cases k with
  | true => exact n { a with nx := fun τ' M' => ∃ m', m' < i ∧ W m' τ' M', ct := fun τ' M' => ∃ m', m' < i ∧ W m' τ' M', bk := a.nx } { b with nx := fun τ' M' => ∃ m', m' < i ∧ W m' τ' M', ct := fun τ' M' => ∃ m', m' < i ∧ W m' τ' M', bk := b.nx } τ M1 ⟨fun _ _ z => z, h.rt, h.nx, fun _ _ z => z, h.ex⟩ z
  | false => exact h.nx _ _ z) (fun c fs M1 => h.ex c fs τ M1) (turn i τ M w)⟩
theorem ds_while {c : Expr} {tc : DT} (hc : DPT C c tc) (hb : DPSs C body tb) : DPS C (.While c body [] pos) (sWhile tc tb) := ⟨monoS_while hc.mono hb.mono, fun pins s σ H τ M D I er sr ⟨W, ⟨m0, w0⟩, turn⟩ => by
  refine wpAny_While (codeAny_whileLoop (fun n s' => ∃ σ' H' τ' M', Inv C.X pins σ' H' s' ∧ EnvR C.X.K H' M' τ' σ' ∧ Go C H M H' M' ∧ W n τ' M') ?_ m0 ⟨σ, H, τ, M, I, er, Go.refl sr, w0⟩)
  rintro n s1 ⟨σ1, H1, τ1, M1, I1, er1, g1, w1⟩
  refine wpAny_passesOwn C.po (thn (hc.go _ pins s1 σ1 H1 τ1 M1 _ (.inl rfl) I1 er1 (sr.go g1) (turn n τ1 M1 w1)) fun b s2 ⟨H2, M2, I2, g2, q2⟩ => ?_)
  cases b with
  | true =>
    rw [if_pos rfl]
    refine wpAny_passesOwn C.po (thn (hb.go pins s2 σ1 H2 τ1 M2 { D with nx := fun τ' M' => ∃ m', m' < n ∧ W m' τ' M', ct := fun τ' M' => ∃ m', m' < n ∧ W m' τ' M', bk := D.nx } I2 (er1.keep g2.keep) ((sr.go g1).go g2) q2) fun f s3 q3 => ?_)
    have g12 := g1.trans g2
    cases f with
    | next =>
      obtain ⟨σ3, H3, τ3, M3, I3, er3, g3, m', hm, w3⟩ := q3
      exact ⟨m', hm, σ3, H3, τ3, M3, I3, er3, g12.trans g3, w3⟩
    | cont =>
      obtain ⟨σ3, H3, τ3, M3, I3, er3, g3, m', hm, w3⟩ := q3
      exact ⟨m', hm, σ3, H3, τ3, M3, I3, er3, g12.trans g3, w3⟩
    | brk =>
      obtain ⟨σ3, H3, τ3, M3, I3, er3, g3, q⟩ := q3
      exact ⟨σ3, H3, τ3, M3, I3, er3, g12.trans g3, q⟩
    | ret v =>
      obtain ⟨x, σ3, H3, d, M3, I3, r3, g3, dn, q⟩ := q3
      exact ⟨x, σ3, H3, d, M3, I3, r3, g12.trans g3, dn, q⟩
  | false =>
    rw [if_neg Bool.false_ne_true]
    exact wpAny_execs_nil ⟨σ1, H2, τ1, M2, I2, er1.keep g2.keep, g1.trans g2, q2⟩⟩
end
end DL

/-! List comprehensions over data. -/
namespace DL
open PySem PySem.Spec PyProof.Rows L2
/-- a comprehension's block -/
def blk (C : DC) (s : Shared) (H : Hp) (scope : Scope) (cenv : Env) (fp : List Addr) : DC where
  X := C.X.blk s H scope cenv fp
  T := C.T
  H0 := C.H0
  M0 := fun _ => some (.ins 0 [])
  W := fun _ _ _ _ => False
  J := fun _ _ => True
  Jk := fun _ _ _ _ _ _ => trivial
  lv := C.lv
  dp := C.dp
  un := C.un
  gb := C.gb
  gd := C.gd
  nd := C.nd
  po := PassesOwn.never
  tk := fun _ _ x => by
    obtain ⟨_, _, _, _, _, _, _, _, _, _, _, _, _, _, _, _, _, _, _, _, _, _, z⟩ := x
    exact z.elim
theorem fxIns {a : Addr} : ¬ Fx (some (.ins a [])) := fun h => by
  rcases h with h | h
  · cases h
  · exact nomatch (Option.some.inj h)
section
variable {C : DC} {e elt tg iter : Expr} {es : List Expr} {pos : Pos} {ifs : List Expr}
theorem blk_sr {s : Shared} {H0 H : Hp} {scope : Scope} {cenv : Env} {fp : List Addr} {M : Mp} (a : Abs C.X.K H M) (t : LamX.Tabs C.T H) : SR (blk C s H0 scope cenv fp) H M := ⟨fun _ _ _ z _ => (fxIns z).elim, a, t, trivial⟩
/-- a clause's tests -/
structure DPTs (C : DC) (ifs : List Expr) (t : DT) : Prop where
  mono : MonoT t
  go : ∀ (pins : List (Addr × Obj)) (s : Shared) (σ : L2.St) (H : Hp) (τ : Sd) (M : Mp) (Q : Bool → Mp → Prop), Inv C.X pins σ H s → EnvR C.X.K H M τ σ → SR C H M → t τ M Q (xw C τ) →
    wpAny (model C.X.prog C.X.w) C.X.A (forIn ifs true fun c r => if r = true then do let ok ← isTrue c C.X.env (eval c C.X.env); pure (ForInStep.yield ok) else pure (ForInStep.yield r)) (TPD C pins σ H M Q) C.X.xe s
def tYesD : DT := fun _ M Q _ => Q true M
theorem dts_nil : DPTs C [] tYesD := ⟨fun τ M Q Q' E E' h _ q => h _ _ q, fun pins s σ H τ M Q I er sr q => wpAny_tests_nil ⟨H, M, I, Go.refl sr, q⟩⟩
theorem dts_one {c : Expr} {t : DT} (h : DPT C c t) : DPTs C [c] t := ⟨h.mono, fun pins s σ H τ M Q I er sr q => wpAny_tests_one (h.go _ pins s σ H τ M Q (.inl rfl) I er sr q)⟩
/-- a target whose names are the block's own -/
structure DPW (C : DC) (tg : Expr) (vs : List Nat) (t : DG) : Prop where
  mono : MonoG t
  go : ∀ (pins : List (Addr × Obj)) (s : Shared) (σ : L2.St) (H : Hp) (τ : Sd) (M : Mp) (d : D) (v : V) (u : Value) (Q : Sd → Mp → Prop), Inv C.X pins σ H s → EnvR C.X.K H M τ σ → SR C H M → RelV v u → Den C.X.K H M d v → t d τ M Q →
    wpAny (model C.X.prog C.X.w) C.X.A (assign tg C.X.env u) (fun _ s' => ∃ σ' H' τ' M', Inv C.X pins σ' H' s' ∧ wipe σ' vs = wipe σ vs ∧ EnvR C.X.K H' M' τ' σ' ∧ Go C H M H' M' ∧ Q τ' M') C.X.xe s
structure DPWs (C : DC) (ts : List Expr) (vs : List Nat) (t : DGs) : Prop where
  mono : MonoGs t
  go : ∀ (pins : List (Addr × Obj)) (s : Shared) (σ : L2.St) (H : Hp) (τ : Sd) (M : Mp) (ds : List D) (ws : List V) (us : List Value) (Q : Sd → Mp → Prop), Inv C.X pins σ H s → EnvR C.X.K H M τ σ → SR C H M → Vals ws us → DenL C.X.K H M ds ws → t ds τ M Q →
    wpAny (model C.X.prog C.X.w) C.X.A (assignInOrder ((assignEach ts C.X.env).map (·.2)) us) (fun _ s' => ∃ σ' H' τ' M', Inv C.X pins σ' H' s' ∧ wipe σ' vs = wipe σ vs ∧ EnvR C.X.K H' M' τ' σ' ∧ Go C H M H' M' ∧ Q τ' M') C.X.xe s
theorem wipe_set {i : Nat} {x : Option V} : ∀ {vs : List Nat} {σ : L2.St}, i ∈ vs → wipe (σ.set i x) vs = wipe σ vs
  | [], _, h => by cases h
  | v :: vs, σ, h => by
    unfold wipe
    by_cases hi : i ∈ vs
    · rw [wipe_set hi]
    · have e : i = v := by
        rcases List.mem_cons.mp h with h | h
        · exact h
        · exact absurd h hi
      subst e
      have : ∀ (vs : List Nat) (σ : L2.St), i ∉ vs → wipe (σ.set i x) vs = (wipe σ vs).set i x := by
        intro vs
        induction vs with
        | nil => intro _ _; rfl
        | cons w ws ih =>
          intro σ hn
          unfold wipe
          rw [ih σ (fun z => hn (List.mem_cons_of_mem _ z)), List.set_comm _ _ (fun z => hn (by rw [z]; exact List.mem_cons_self))]
      rw [this vs σ hi, List.set_set]
theorem dw_name {i : Nat} {x : Str} {vs : List Nat} (hv : i ∈ vs) (hi : C.X.N[i]? = some x) (hx : Loc C.X.env.scope x) (hf : C.X.fn x = true ∨ C.X.env.scope.names.lookup x = some .local := by first | exact .inl rfl | exact .inr rfl | assumption) : DPW C (.Name x pos) vs (gVar i) :=
  ⟨monoG_var, fun pins s σ H τ M d v u Q I er sr r dn q => wpAny_assign_Name (store_ok I C.nd hi hx r (fun s' I' => ⟨_, H, _, M, I', wipe_set hv, by rw [setV_set]; exact er.set dn, Go.refl sr, q⟩) hf)⟩
theorem dws_nil {vs : List Nat} : DPWs C [] vs gNil := ⟨monoG_nil, fun pins s σ H τ M ds ws us Q I er sr r l q => by
  cases ds with
  | cons => exact q.elim
  | nil =>
    simp only [DenL] at l
    subst l
    cases r
    exact assignInOrder_nil ⟨σ, H, τ, M, I, rfl, er, Go.refl sr, q⟩⟩
theorem dws_cons {t : DG} {r : DGs} {vs : List Nat} (h1 : DPW C e vs t) (h2 : DPWs C es vs r) (hs : (assignEach (e :: es) C.X.env).map (·.2) = assign e C.X.env :: (assignEach es C.X.env).map (·.2) := by rfl) : DPWs C (e :: es) vs (gCons t r) :=
  ⟨monoG_cons h1.mono h2.mono, fun pins s σ H τ M ds ws us Q I er sr rv l q => by
  cases ds with
  | nil => exact q.elim
  | cons d ds =>
    simp only [DenL] at l
    obtain ⟨v, ws, rfl, dn, l⟩ := l
    cases rv with
    | cons ru rr =>
      rw [hs]
      refine assignInOrder_cons (thn (h1.go pins s σ H τ M d v _ _ I er sr ru dn q) fun _ s1 ⟨σ1, H1, τ1, M1, I1, e1, er1, g1, q1⟩ => ?_)
      exact thn (h2.go pins s1 σ1 H1 τ1 M1 ds ws _ Q I1 er1 (sr.go g1) rr (l.keep g1.keep) q1) fun _ s2 ⟨σ2, H2, τ2, M2, I2, e2, er2, g2, q2⟩ => ⟨σ2, H2, τ2, M2, I2, e2.trans e1, er2, g1.trans g2, q2⟩⟩
theorem dw_tup {k n : Nat} {t : DGs} {vs : List Nat} (hc : C.X.calm = true) (h : DPWs C es vs t) (hn : (assignEach es C.X.env).length = n := by rfl) (hst : (assignEach es C.X.env).findIdx? (·.1) = none := by rfl) : DPW C (.Tuple es k pos) vs (gTup n t) :=
  ⟨monoG_tup h.mono, fun pins s σ H τ M d v u Q I er sr r dn q => by
  cases d <;> try exact q.elim
  rename_i ds
  obtain ⟨hl, q⟩ := q
  obtain ⟨a, ws, its, rfl, rfl, t0, l, rv, ht, hz, hi⟩ := tup_of I r dn
  refine assign_Tuple_tuple (I.ok.hd hc) ht (by simp [hn, ← hl, hi]) hst fun h' hx => ?_
  have I1 : Inv C.X pins σ H { s with heap := h' } := I.kept (t' := s.toks) fun b o e => hx b o (Nat.ne_of_lt (Heap.lt_size e)) e
  exact h.go pins _ σ H τ M ds ws _ Q I1 er sr (by simpa using rv) l q⟩

def wipeD (τ : Sd) : List Nat → Sd
  | [] => τ
  | v :: vs => setV (wipeD τ vs) v none
theorem EnvR.wipe {K : PySem.W.Frag} {H : Hp} {M : Mp} {τ : Sd} {σ : L2.St} (er : EnvR K H M τ σ) : ∀ vs : List Nat, EnvR K H M (wipeD τ vs) (L2.wipe σ vs)
  | [] => er
  | v :: vs => by
    unfold wipeD L2.wipe
    rw [setV_set]
    exact (EnvR.wipe er vs).unset
/-- the turns: p the new list's place, τ the names, acc what is in it -/
def compT (ok : Mp → Prop) (g : DG) (tt : DT) (te : DE) (p : Addr) (τ : Sd) (K : List D → Mp → Prop) : List D → List D → Mp → Prop
  | [], acc, M => ok M ∧ M p = some .priv ∧ K acc M
  | d :: ds, acc, M => ok M ∧ M p = some .priv ∧ g d τ M fun τ2 M2 => tt τ2 M2 (fun b M3 => if b = true then te τ2 M3 (fun y M4 => compT ok g tt te p τ K ds (acc ++ [y]) M4) (fun _ _ _ => False) else compT ok g tt te p τ K ds acc M3) fun _ _ _ => False
def dComp (wi : DI) (g : DG) (tt : DT) (te : DE) (vs : List Nat) : DE := fun τ M Q E => wi τ M (fun ds ok M1 => ∀ p, M1 p = none → compT ok g tt te p (wipeD τ vs) (fun acc M2 => Q (.lst acc) (del M2 p)) ds [] (put M1 p .priv)) E
def dCompM (wi : DI) (g : DG) (tt : DT) (te : DE) (vs : List Nat) : DE := fun τ M Q E => wi τ M (fun ds ok M1 => ∀ p, M1 p = none → compT ok g tt te p (wipeD τ vs) (fun acc M2 => Q (.ref p) (put M2 p (.lst acc))) ds [] (put M1 p .priv)) E
section
variable {wi : DI} {g : DG} {tt : DT} {te : DE} {vs : List Nat}
theorem monoC (mg : MonoG g) (mt : MonoT tt) (me : MonoE te) {ok : Mp → Prop} {p : Addr} {τ : Sd} {K K' : List D → Mp → Prop} (h : ∀ acc M, K acc M → K' acc M) : ∀ (ds acc : List D) (M : Mp), compT ok g tt te p τ K ds acc M → compT ok g tt te p τ K' ds acc M
  | [], acc, M, q => ⟨q.1, q.2.1, h _ _ q.2.2⟩
  | d :: ds, acc, M, q => ⟨q.1, q.2.1, mg d τ M _ _ (fun τ2 M2 => mt τ2 M2 _ _ _ _ (fun b M3 z => by
    cases b with
    | true => exact me τ2 M3 _ _ _ _ (fun y M4 z => monoC mg mt me h ds _ M4 z) (fun _ _ _ z => z) z
    | false => exact monoC mg mt me h ds _ M3 z) fun _ _ _ z => z) q.2.2⟩
theorem mono_comp (mi : MonoI wi) (mg : MonoG g) (mt : MonoT tt) (me : MonoE te) : MonoE (dComp wi g tt te vs) := fun τ M Q Q' E E' h he q =>
  mi τ M _ _ _ _ (fun ds ok M1 z p hp => monoC mg mt me (fun acc M2 => h _ _) ds [] _ (z p hp)) he q
theorem mono_compM (mi : MonoI wi) (mg : MonoG g) (mt : MonoT tt) (me : MonoE te) : MonoE (dCompM wi g tt te vs) := fun τ M Q Q' E E' h he q =>
  mi τ M _ _ _ _ (fun ds ok M1 z p hp => monoC mg mt me (fun acc M2 => h _ _) ds [] _ (z p hp)) he q
/-- the iterable over the hand layer -/
def liftI (C : DC) (t : DI) : TI := fun σ H R => ∃ τ M, EnvR C.X.K H M τ σ ∧ SR C H M ∧ t τ M (fun ds ok M' => ∀ J H', Go C H M H' M' → Feeds C J ds ok H' M' → R J H') (xw C τ)
theorem DPI.pi (h : DPI C tg iter wi) : PI C.X tg iter (liftI C wi) := ⟨fun pins s σ H R I ⟨τ, M, er, sr, q⟩ =>
  thn (h.go pins s σ H τ M _ I er sr q) fun v s1 h1 => thn h1 fun itv s2 ⟨it, fp, tn, J, H', ds, ok, M', e, I2, T, st, f, g, fe, q'⟩ => ⟨it, fp, tn, J, H', e, I2, T, st, f, q' J H' g fe⟩⟩
def liftG (K : PySem.W.Frag) (T : List (Addr × Str)) (vs : List Nat) (g : DG) : TG := fun x σ H R => ∃ d τ M, EnvR K H M τ σ ∧ Abs K H M ∧ LamX.Tabs T H ∧ Den K H M d x ∧ g d τ M fun τ' M' => ∀ σ' H', wipe σ' vs = wipe σ vs → GoK K T H M H' M' → EnvR K H' M' τ' σ' → R σ' H'
def liftBT (K : PySem.W.Frag) (T : List (Addr × Str)) (t : DT) : TT := fun σ H R => ∃ τ M, EnvR K H M τ σ ∧ Abs K H M ∧ LamX.Tabs T H ∧ t τ M (fun b M' => ∀ H', GoK K T H M H' M' → R b H') fun _ _ _ => False
def liftBE (K : PySem.W.Frag) (T : List (Addr × Str)) (t : DE) : TE := fun σ H R => ∃ τ M, EnvR K H M τ σ ∧ Abs K H M ∧ LamX.Tabs T H ∧ t τ M (fun d M' => ∀ v H', GoK K T H M H' M' → Den K H' M' d v → R v H') fun _ _ _ => False
section
variable {s : Shared} {H0 : Hp} {scope : Scope} {cenv : Env} {fp : List Addr}
theorem DPW.pg (h : DPW (blk C s H0 scope cenv fp) tg vs g) : PG (C.X.blk s H0 scope cenv fp) tg (liftG C.X.K C.T vs g) := ⟨fun pins s1 σ H x u R I r ⟨d, τ, M, er, ab, tb, dn, q⟩ =>
  thn (h.go pins s1 σ H τ M d x u _ I er (blk_sr ab tb) r dn q) fun _ s' ⟨σ', H', τ', M', I', e, er', g, q'⟩ => ⟨σ', H', I', q' σ' H' e g er'⟩⟩
theorem DPTs.pts (h : DPTs (blk C s H0 scope cenv fp) ifs tt) : PTs (C.X.blk s H0 scope cenv fp) ifs (liftBT C.X.K C.T tt) := ⟨fun pins s1 σ H R I ⟨τ, M, er, ab, tb, q⟩ =>
  thn (h.go pins s1 σ H τ M _ I er (blk_sr ab tb) q) fun b s' ⟨H', M', I', g, q'⟩ => ⟨H', I', q' H' g⟩⟩
theorem DPE.pb (h : DPE (blk C s H0 scope cenv fp) elt te) : PE (C.X.blk s H0 scope cenv fp) elt (liftBE C.X.K C.T te) := ⟨fun pins s1 σ H R I ⟨τ, M, er, ab, tb, q⟩ =>
  thn (h.go pins s1 σ H τ M _ I er (blk_sr ab tb) q) fun u s' ⟨v, H', d, M', I', r, g, dn, q'⟩ => ⟨v, H', I', r, q' v H' g dn⟩⟩
end
/-- a list under construction grows -/
theorem grow {H : Hp} {M : Mp} {p : Addr} {xs ys : List V} (ab : Abs C.X.K H M) (tb : LamX.Tabs C.T H) (hp : M p = some .priv) (hH : H p = some (.lst xs)) :
    KeepR H M (upd H p (.lst ys)) M ∧ Abs C.X.K (upd H p (.lst ys)) M ∧ LamX.Tabs C.T (upd H p (.lst ys)) := by
  have k : KeepR H M (upd H p (.lst ys)) M := fun a u e n nt => ⟨n, by rw [upd_ne (fun z => by rw [z, hp] at n; cases n)]; exact e⟩
  refine ⟨k, fun a o e => ?_, TabsUpd tb (.inr ⟨_, hH⟩) fun _ z => nomatch z⟩
  by_cases ha : a = p
  · subst ha
    rw [hp] at e; cases e
    exact ⟨ys, upd_same⟩
  · exact (ab a o e).keepR k (upd_ne ha)
theorem compT_priv {ok : Mp → Prop} {p : Addr} {τ : Sd} {K : List D → Mp → Prop} {ds acc : List D} {M : Mp} (q : compT ok g tt te p τ K ds acc M) : M p = some .priv := by
  cases ds with
  | nil => exact q.2.1
  | cons => exact q.2.1
theorem Keep.upd_new {H H' : Hp} {M M' : Mp} {p : Addr} {o : HO} (k : Keep H M H' M') (hp : H p = none) : Keep H M (upd H' p o) M' := fun a u e n nt => by
  rw [upd_ne (ne_of_none e hp)]
  exact k a u e n nt
theorem wipe_wipe (σ : L2.St) (vs : List Nat) : L2.wipe (L2.wipe σ vs) vs = L2.wipe σ vs := by
  have : ∀ us : List Nat, (∀ i ∈ us, i ∈ vs) → L2.wipe (L2.wipe σ us) vs = L2.wipe σ vs := by
    intro us
    induction us with
    | nil => intro _; rfl
    | cons u us ih =>
      intro h
      show L2.wipe ((L2.wipe σ us).set u none) vs = _
      rw [wipe_set (h u List.mem_cons_self)]
      exact ih fun i hi => h i (List.mem_cons_of_mem _ hi)
  exact this vs fun _ h => h
/-- what a comprehension's turns ask, over the hand layer -/
theorem comp_lc (mg : MonoG g) (mt : MonoT tt) (me : MonoE te) {K : List D → Mp → Prop} {Q : VK} {σ : L2.St} {H1 : Hp} {τ : Sd} {M1 : Mp} {J : It} {ds : List D} {ok : Mp → Prop} (sr : SR C H1 M1) (er : EnvR C.X.K H1 M1 τ σ) (fe : Feeds C J ds ok H1 M1) (p : Addr) (hp : H1 p = none)
    (q : compT ok g tt te p (wipeD τ vs) K ds [] (put M1 p .priv))
    (hK : ∀ acc M2 H2 ws, K acc M2 → M2 p = some .priv → Go C H1 M1 H2 M2 → H2 p = some (.lst ws) → DenL C.X.K H2 M2 acc ws → acc.length ≤ sizeLine → Q (.ref p) H2) :
    ∃ W : Nat → Nat → Hp → Prop, (∃ m, W 0 m (upd H1 p (.lst []))) ∧ ∀ i m H, W i m H →
      (J.stop i H ∧ Q (.ref p) H) ∨ (J.go i H ∧ ∃ Nx : Hp → Prop, (∀ H', Nx H' → ∃ m', m' < m ∧ W (i + 1) m' H') ∧ ∀ x H', J.yld i H x H' → liftG C.X.K C.T vs g x (L2.wipe σ vs) H' fun σ2 H2 => L2.wipe σ2 vs = L2.wipe σ vs ∧ liftBT C.X.K C.T tt σ2 H2 fun b H3 =>
        if b = true then liftBE C.X.K C.T te σ2 H3 fun y H4 => ∃ acc, H4 p = some (.lst acc) ∧ acc.length < sizeLine ∧ Nx (upd H4 p (.lst (acc ++ [y]))) else Nx H3) := by
  have start : Go C H1 M1 (upd H1 p (.lst [])) (put M1 p .priv) := ⟨Keep.mut sr.abs hp, sr.abs.privs hp, TabsUpd sr.tab (.inl hp) fun _ z => nomatch z⟩
  refine ⟨fun i m H => m = ds.length - i ∧ i ≤ ds.length ∧ ∃ M acc ws, Go C H1 M1 H M ∧ H p = some (.lst ws) ∧ DenL C.X.K H M acc ws ∧ acc.length ≤ i ∧ compT ok g tt te p (wipeD τ vs) K (ds.drop i) acc M,
    ⟨ds.length, rfl, Nat.zero_le _, put M1 p .priv, [], [], start, upd_same, DenL.nil, Nat.le_refl _, q⟩, ?_⟩
  rintro i m H ⟨rfl, hi, M, acc, ws, g1, hH, l, hacc, w⟩
  by_cases hlt : i < ds.length
  · rw [List.drop_eq_getElem_cons hlt] at w
    obtain ⟨hok, hM, w⟩ := w
    obtain ⟨go, yl⟩ := fe.step i H M ds[i] g1 hok (by simp [hlt])
    refine .inr ⟨go, fun H' => ∃ M acc ws, Go C H1 M1 H' M ∧ H' p = some (.lst ws) ∧ DenL C.X.K H' M acc ws ∧ acc.length ≤ i + 1 ∧ compT ok g tt te p (wipeD τ vs) K (ds.drop (i + 1)) acc M, fun H' h => ⟨ds.length - (i + 1), by omega, rfl, hlt, h⟩, fun x H' y => ?_⟩
    obtain ⟨g2, dn⟩ := yl x H' y
    have g12 := g1.trans g2
    refine ⟨ds[i], wipeD τ vs, M, (er.keep g12.keep).wipe vs, g2.abs, g2.tab, dn, ?_⟩
    refine mg _ _ M _ _ (fun τ2 M2 z σ2 H2 e2 g3 er2 => ⟨by rw [e2, wipe_wipe], τ2, M2, er2, g3.abs, g3.tab, ?_⟩) w
    refine mt τ2 M2 _ _ _ _ (fun b M3 z H3 g4 => ?_) (fun _ _ _ z => z) z
    have g34 := (g2.trans g3).trans g4
    cases b with
    | false =>
      have hp3 := (g34.keep p _ hH (.inr hM) fun _ z => nomatch z).2
      exact ⟨M3, acc, ws, g1.trans g34, hp3, l.keep g34.keep, by omega, z⟩
    | true =>
      refine ⟨τ2, M3, er2.keep g4.keep, g4.abs, g4.tab, me τ2 M3 _ _ _ _ (fun y M4 z v H4 g5 dv => ?_) (fun _ _ _ z => z) z⟩
      have g35 := g34.trans g5
      have hp4 := (g35.keep p _ hH (.inr hM) fun _ z => nomatch z).2
      have hl := l.length
      have hz := fe.size
      obtain ⟨k, ab, tb⟩ := grow (ys := ws ++ [v]) g35.abs g35.tab (compT_priv z) hp4
      refine ⟨ws, hp4, by omega, M4, acc ++ [y], ws ++ [v], ⟨(g1.trans g35).keep.upd_new hp, ab, tb⟩, upd_same, DenL.keepR k _ ((l.keep g35.keep).append (.cons dv .nil)), by simp; omega, z⟩
  · have e : i = ds.length := by omega
    subst e
    rw [List.drop_length] at w
    obtain ⟨hok, hpv, k⟩ := w
    exact .inl ⟨fe.stop _ H M g1 hok (Nat.le_refl _), hK acc M H ws k hpv g1 hH l (Nat.le_trans hacc fe.size)⟩
theorem de_comp {scope : Scope} {own : List (Str × Nat)} (hc : C.X.calm = true) (hi : DPI C tg iter wi) (ok : BlkOk C.X.N C.X.env.scope scope own)
    (hg : ∀ (s : Shared) (H : Hp) (A : Addr) (cl : List (Str × Addr)) (fp : List Addr), DPW (blk C s H scope (compEnvC scope cl A C.X.env) fp) tg (own.map (·.2)) g)
    (ht : ∀ (s : Shared) (H : Hp) (A : Addr) (cl : List (Str × Addr)) (fp : List Addr), DPTs (blk C s H scope (compEnvC scope cl A C.X.env) fp) ifs tt)
    (he : ∀ (s : Shared) (H : Hp) (A : Addr) (cl : List (Str × Addr)) (fp : List Addr), DPE (blk C s H scope (compEnvC scope cl A C.X.env) fp) elt te) (hs : ∀ x, foldedSetIterable iter C.X.env x = pure x := by intro _; rfl) :
    DPE C (.ListComp elt [⟨tg, iter, ifs, 0⟩] scope pos) (dComp wi g tt te (own.map (·.2))) := by
  have mg := (hg C.X.s_0 C.X.H_0 0 [] []).mono
  have mt := (ht C.X.s_0 C.X.H_0 0 [] []).mono
  have me := (he C.X.s_0 C.X.H_0 0 [] []).mono
  refine .of (mono_comp hi.mono mg mt me) (pe_lc hc C.nd hi.pi ok (fun s H A cl fp => (hg s H A cl fp).pg) (fun s H A cl fp => (ht s H A cl fp).pts) (fun s H A cl fp => (he s H A cl fp).pb) hs) fun σ H Q ⟨τ, M, er, sr, q⟩ => ?_
  refine ⟨τ, M, er, sr, hi.mono _ _ _ _ _ _ (fun ds oks M' z J H' g1 fe p hp => ?_) (fun _ _ _ z => z) q⟩
  refine comp_lc mg mt me (sr.go g1) (er.keep g1.keep) fe p hp (z p (g1.abs.free hp)) fun acc M2 H2 ws k hM g2 hH l hz => ?_
  have g3 : Go C H' M' H2 (del M2 p) := ⟨g2.keep.trans Keep.fix, g2.abs.fix, g2.tab⟩
  refine k _ _ (g1.trans g3) ?_
  simp only [Den]
  exact ⟨p, ws, rfl, ⟨del_same, hH⟩, l.keep Keep.fix⟩
theorem de_compM {scope : Scope} {own : List (Str × Nat)} (hc : C.X.calm = true) (hi : DPI C tg iter wi) (ok : BlkOk C.X.N C.X.env.scope scope own)
    (hg : ∀ (s : Shared) (H : Hp) (A : Addr) (cl : List (Str × Addr)) (fp : List Addr), DPW (blk C s H scope (compEnvC scope cl A C.X.env) fp) tg (own.map (·.2)) g)
    (ht : ∀ (s : Shared) (H : Hp) (A : Addr) (cl : List (Str × Addr)) (fp : List Addr), DPTs (blk C s H scope (compEnvC scope cl A C.X.env) fp) ifs tt)
    (he : ∀ (s : Shared) (H : Hp) (A : Addr) (cl : List (Str × Addr)) (fp : List Addr), DPE (blk C s H scope (compEnvC scope cl A C.X.env) fp) elt te) (hs : ∀ x, foldedSetIterable iter C.X.env x = pure x := by intro _; rfl) :
    DPE C (.ListComp elt [⟨tg, iter, ifs, 0⟩] scope pos) (dCompM wi g tt te (own.map (·.2))) := by
  have mg := (hg C.X.s_0 C.X.H_0 0 [] []).mono
  have mt := (ht C.X.s_0 C.X.H_0 0 [] []).mono
  have me := (he C.X.s_0 C.X.H_0 0 [] []).mono
  refine .of (mono_compM hi.mono mg mt me) (pe_lc hc C.nd hi.pi ok (fun s H A cl fp => (hg s H A cl fp).pg) (fun s H A cl fp => (ht s H A cl fp).pts) (fun s H A cl fp => (he s H A cl fp).pb) hs) fun σ H Q ⟨τ, M, er, sr, q⟩ => ?_
  refine ⟨τ, M, er, sr, hi.mono _ _ _ _ _ _ (fun ds oks M' z J H' g1 fe p hp => ?_) (fun _ _ _ z => z) q⟩
  refine comp_lc mg mt me (sr.go g1) (er.keep g1.keep) fe p hp (z p (g1.abs.free hp)) fun acc M2 H2 ws k hM g2 hH l hz => ?_
  have kp : KeepR H2 M2 H2 (put M2 p (.lst acc)) := fun a u e n _ => ⟨by rw [put_ne (fun z => by rw [z, hM] at n; cases n)]; exact n, e⟩
  have g3 : Go C H' M' H2 (put M2 p (.lst acc)) := by
    refine ⟨fun a u e n nt => ?_, fun a o e => ?_, g2.tab⟩
    · have := g2.keep a u e n nt
      rw [put_ne (ne_of_none e hp)]
      exact this
    · by_cases ha : a = p
      · subst ha
        rw [put_same] at e; cases e
        exact ⟨ws, hH, DenL.keepR kp _ l⟩
      · rw [put_ne ha] at e
        exact (g2.abs a o e).keepR kp rfl
  refine k _ _ (g1.trans g3) ?_
  simp only [Den]
/-- y = [..] on one line: the comprehension stores in its own block -/
def sComp (wi : DI) (g : DG) (tt : DT) (te : DE) (vs : List Nat) (i : Nat) : DS := sAsg (dComp wi g tt te vs) (gVar i)
theorem ds_comp {scope : Scope} {own : List (Str × Nat)} {i : Nat} {y : Str} {py spos : Pos} (hc : C.X.calm = true) (hy : C.X.N[i]? = some y) (hyl : C.X.env.scope.names.lookup y = some .local)
    (hsw : swapsWith (.ListComp elt [⟨tg, iter, ifs, 0⟩] scope pos) (some (.Name y py)) spos.line C.X.env = pure true) (hi : DPI C tg iter wi) (ok : BlkOk C.X.N C.X.env.scope scope own)
    (hg : ∀ (s : Shared) (H : Hp) (A : Addr) (cl : List (Str × Addr)) (fp : List Addr), DPW (blk C s H scope (compEnvC scope cl A C.X.env) fp) tg (own.map (·.2)) g)
    (ht : ∀ (s : Shared) (H : Hp) (A : Addr) (cl : List (Str × Addr)) (fp : List Addr), DPTs (blk C s H scope (compEnvC scope cl A C.X.env) fp) ifs tt)
    (he : ∀ (s : Shared) (H : Hp) (A : Addr) (cl : List (Str × Addr)) (fp : List Addr), DPE (blk C s H scope (compEnvC scope cl A C.X.env) fp) elt te) (hs : ∀ x, foldedSetIterable iter C.X.env x = pure x := by intro _; rfl) :
    DPS C (.Assign [.Name y py] (.ListComp elt [⟨tg, iter, ifs, 0⟩] scope pos) spos) (sAsg (dComp wi g tt te (own.map (·.2))) (gVar i)) := by
  have mg := (hg C.X.s_0 C.X.H_0 0 [] []).mono
  have mt := (ht C.X.s_0 C.X.H_0 0 [] []).mono
  have me := (he C.X.s_0 C.X.H_0 0 [] []).mono
  refine .of (monoS_asg (mono_comp hi.mono mg mt me) monoG_var) (ps_setLc hc C.nd hy hyl hsw hi.pi ok (fun s H A cl fp => (hg s H A cl fp).pg) (fun s H A cl fp => (ht s H A cl fp).pts) (fun s H A cl fp => (he s H A cl fp).pb) hs) fun H M τ σ D er sr q => ?_
  refine ⟨τ, M, er, sr, hi.mono _ _ _ _ _ _ (fun ds oks M' z J H' g1 fe p hp => ?_) (fun _ _ _ z => z) q⟩
  refine comp_lc (Q := fun x H1 => L2.gName i x σ H1 (endsOf C H M D).nx) mg mt me (sr.go g1) (er.keep g1.keep) fe p hp (z p (g1.abs.free hp)) fun acc M2 H2 ws k hM g2 hH l hz => ?_
  have g3 : Go C H' M' H2 (del M2 p) := ⟨g2.keep.trans Keep.fix, g2.abs.fix, g2.tab⟩
  refine ⟨_, del M2 p, ?_, g1.trans g3, k⟩
  rw [setV_set]
  refine EnvR.set ((er.keep g1.keep).keep g3.keep) ?_
  simp only [Den]
  exact ⟨p, ws, rfl, ⟨del_same, hH⟩, l.keep Keep.fix⟩
end
end
end DL

/-! sum(..) of a tuple of ints. -/
namespace DL
open PySem PySem.Spec PyProof.Rows L2
section
variable {prog : Program} {w : World} {A : Around} {E : Value → Shared → Prop} {s : Shared}
theorem sum_tup {l : Addr} {its : List Value} {ns : List Int} {Q : Value → Shared → Prop} (hh : A.handled = none) (hl : IsTup s.heap l its.toArray) (hi : IntsAre its ns)
    (h : ∀ h' tk t', (∀ b o, s.heap.get? b = some o → h'.get? b = some o) → Q (.int ns.sum t') { s with heap := h', toks := tk }) : wpAny (model prog w) A (call (.builtin "sum") [.ref l]) Q E s := by
  obtain ⟨xs, e⟩ := hi.allInts.items
  have hn : numsOf (intItems xs).toList = ns := by rw [← e]; exact hi.numsOf
  rw [nums_intItems] at hn
  rw [e] at hl
  have hlt : l < s.heap.objs.size := by obtain ⟨o, ho, _⟩ := id hl; exact Heap.lt_size ho
  refine call_sum_walkG (iter_tuple hl ?_)
  refine ⟨_, _, _, _, _, _, numAt xs, rfl, Walks.tuple (A := A.in1) hh _ l (Nat.ne_of_lt hlt) (intItems xs), ⟨⟨_, Heap.get?_push_size _ rfl, rfl, rfl⟩, hl.push _⟩, ?_, (fun _ _ => intItems_at), fun h' tk t' hk => ?_⟩
  · intro b hb
    show b < (s.heap.push _).objs.size
    rw [Heap.size_push]
    simp only [List.mem_cons, List.not_mem_nil, or_false] at hb
    rcases hb with rfl | rfl
    · exact Nat.lt_succ_self _
    · exact Nat.lt_succ_of_lt hlt
  · have := h h' tk t' (fun b o e => by
      refine hk b o (fun hm => ?_) (Heap.get?_push_of_some _ e)
      simp only [List.mem_cons, List.not_mem_nil, or_false] at hm
      subst hm
      exact absurd (Heap.lt_size e) (Nat.lt_irrefl _))
    have e3 : preSum (numAt xs) (intItems xs).size = ns.sum := by
      rw [preSum_eq, List.take_of_length_le (by simp [intItems]), hn]
    rw [e3]
    exact this
end
theorem cr_sumT {X : Cx} (hc : X.calm = true) : CallR X (.builtin "sum") (fun vs H Q => ∃ (a : Addr) (ns : List Int), vs = [V.ref a] ∧ SqT X.K H a (ns.map V.int) ∧ Q (.int ns.sum) H) := by
  intro pins s σ H vs us Q I r h
  obtain ⟨a, ns, rfl, hs, q⟩ := h
  obtain ⟨its, rv, hl, _⟩ := I.tuple hs
  rw [Vals.ref1 r]
  exact sum_tup (I.ok.hd hc) hl rv.ints fun h' tk t' hk => ⟨.int _, H, I.kept hk, ⟨_, rfl⟩, q⟩
end DL

/-! Built-in operations over data. -/
namespace DL
open PySem PySem.Spec PyProof.Rows L2
section
variable {C : DC} {e a b : Expr} {es : List Expr} {x : Str} {p pos : Pos} {ta tb te : DE} {t : DA} {id : String}

/-! ### calls of built-in functions and types -/
abbrev OL := List D → Mp → Option D
def DCl (C : DC) (f : Value) (g : OL) : Prop :=
  ∀ (pins : List (Addr × Obj)) (s : Shared) (σ : L2.St) (H : Hp) (M : Mp) (xs : List V) (us : List Value) (ds : List D) (z : D), Inv C.X pins σ H s → SR C H M → Vals xs us → DenL C.X.K H M ds xs → g ds M = some z →
    wpAny (model C.X.prog C.X.w) C.X.A (call f us) (EPD C pins σ H M fun z' M' => z' = z ∧ M' = M) C.X.xe s
theorem DCl.of {f : Value} {r : List V → Hp → VK → Prop} {g : OL} (h : CallR C.X f r)
    (hi : ∀ (pins : List (Addr × Obj)) (s : Shared) (σ : L2.St) (H : Hp) (M : Mp) (xs : List V) (ds : List D) (z : D) (Q : VK), Inv C.X pins σ H s → SR C H M → DenL C.X.K H M ds xs → g ds M = some z → (∀ v H', Go C H M H' M → Den C.X.K H' M z v → Q v H') → r xs H Q) : DCl C f g :=
  fun pins s σ H M xs us ds z I sr rv l ez =>
    thn (h pins s σ H xs us (fun w H' => Go C H M H' M ∧ Den C.X.K H' M z w) I rv (hi pins s σ H M xs ds z _ I sr l ez fun v H' g dn => ⟨g, dn⟩)) fun w s' ⟨wv, H', I', rw, g, dn⟩ => ⟨wv, H', z, M, I', rw, g, dn, rfl, rfl⟩
def dFn (g : OL) (t : DA) : DE := fun τ M Q E => t τ M (fun ds M1 => ok1 (g ds M1) fun z => Q z M1) E
theorem mono_fn {g : OL} (m : MonoA t) : MonoE (dFn g t) := fun τ M Q Q' E E' h he q => m τ M _ _ _ _ (fun ds M1 => ok1_mono fun z => h z M1) he q
theorem fn_run {f : Value} {g : OL} (h : DCl C f g) {pins : List (Addr × Obj)} {s : Shared} {σ : L2.St} {H H0 : Hp} {M M0 : Mp} {xs : List V} {us : List Value} {ds : List D} {Q : DK} (I : Inv C.X pins σ H s) (sr : SR C H M) (g0 : Go C H0 M0 H M) (r : Vals xs us) (l : DenL C.X.K H M ds xs) (q : ok1 (g ds M) fun z => Q z M) :
    wpAny (model C.X.prog C.X.w) C.X.A (call f us) (EPD C pins σ H0 M0 Q) C.X.xe s := by
  obtain ⟨z, ez, q⟩ := ok1_ex q
  refine thn (h pins s σ H M xs us ds z I sr r l ez) fun w s' ⟨wv, H', z', M', I', rw, g1, dn, e1, e2⟩ => ?_
  subst e1; subst e2
  exact ⟨wv, H', z', _, I', rw, g0.trans g1, dn, q⟩
theorem de_callB {g : OL} (hc : DCl C (.builtin id) g) (hg : Gl C.X x) (hm : C.X.mg x = none) (hv : bootBuiltins x = some (.builtin id)) (ha : DPA C (e :: es) t) (hn : x ≠ "__name__" := by decide) (hdb : (x == ("__debug__" : Str)) = false := by decide)
    (he : starEach (e :: es) C.X.env = (false, eval e C.X.env) :: starEach es C.X.env := by rfl) (hpl : (backTo pos (starEach es C.X.env)).any (·.1) = false := by rfl) : DPE C (.Call (.Name x p) (e :: es) [] pos) (dFn g t) := ⟨mono_fn ha.mono, fun pins s σ H τ M Q I er sr q => by
  refine wpAny_Call_Name_kw (ld_blt I hg hm hv ?_ hn hdb)
  exact PyProof.Rows.callWith_builtin1 (thn (ha.go pos pins s σ H τ M _ I er sr q) fun us s1 ⟨vs, H1, ds, M1, I1, r1, g1, l1, q1⟩ => fn_run hc I1 (sr.go g1) g1 r1 l1 q1) he hpl⟩
theorem de_callT {T : String} {g : OL} (hc : DCl C (.type T) g) (hg : Gl C.X x) (hm : C.X.mg x = none) (hv : bootBuiltins x = some (.type T)) (ha : DPA C (e :: es) t) (hn : x ≠ "__name__" := by decide) (hdb : (x == ("__debug__" : Str)) = false := by decide)
    (he : starEach (e :: es) C.X.env = (false, eval e C.X.env) :: starEach es C.X.env := by rfl) (hpl : (backTo pos (starEach es C.X.env)).any (·.1) = false := by rfl) : DPE C (.Call (.Name x p) (e :: es) [] pos) (dFn g t) := ⟨mono_fn ha.mono, fun pins s σ H τ M Q I er sr q => by
  refine wpAny_Call_Name_kw (ld_blt I hg hm hv ?_ hn hdb)
  exact PyProof.Rows.callWith_type1 (thn (ha.go pos pins s σ H τ M _ I er sr q) fun us s1 ⟨vs, H1, ds, M1, I1, r1, g1, l1, q1⟩ => fn_run hc I1 (sr.go g1) g1 r1 l1 q1) he hpl⟩

/-! ### sequences by values -/
theorem seq_v {pins : List (Addr × Obj)} {s : Shared} {σ : L2.St} {H : Hp} {M : Mp} {d : D} {xs : List D} {v : V} (I : Inv C.X pins σ H s) (sr : SR C H M) (dn : Den C.X.K H M d v) (e : items M d = some xs) :
    ∃ q vs, v = .ref q ∧ DenL C.X.K H M xs vs ∧ vs.length = xs.length ∧ xs.length ≤ sizeLine ∧ ((SqT C.X.K H q vs ∧ ∃ zs, d = .tup zs) ∨ (SqL C.X.K H q vs ∧ ∀ zs, d ≠ .tup zs)) := by
  obtain ⟨q, vs, rfl, l, h⟩ := seq_of sr.abs dn e
  have hl := l.length
  rcases h with ⟨z, h, _⟩ | ⟨z, h, _⟩
  · obtain ⟨_, _, _, hz⟩ := I.tuple h
    exact ⟨q, vs, rfl, l, hl, by omega, .inl ⟨h, z⟩⟩
  · obtain ⟨_, _, _, hz⟩ := I.list h
    exact ⟨q, vs, rfl, l, hl, by omega, .inr ⟨h, z⟩⟩
def gLen : OL := fun ds M => match ds with
  | [.str z] => if z.length ≤ sizeLine then some (.int z.length) else none
  | [x] => (items M x).map fun xs => .int xs.length
  | _ => none
theorem cl_len : DCl C (.builtin "len") gLen := fun pins s σ H M xs us ds z I sr rv l ez => by
  unfold gLen at ez
  split at ez
  · split at ez <;> try cases ez
    rename_i z hz
    obtain ⟨v, rfl, dn⟩ := l.one
    simp only [Den] at dn
    subst dn
    exact thn (call_len_str pins s σ H _ us (fun w H' => w = .int z.length ∧ H' = H) I rv ⟨z, rfl, hz, rfl, rfl⟩) fun w s' ⟨wv, H', I', rw, e1, e2⟩ => by
      subst e1; subst e2
      exact ⟨_, _, .int z.length, M, I', rw, Go.refl sr, by simp only [Den], rfl, rfl⟩
  · rename_i d hd
    cases e : items M d with
    | none => rw [e] at ez; cases ez
    | some ys =>
      rw [e] at ez
      cases ez
      obtain ⟨v, rfl, dn⟩ := l.one
      obtain ⟨q, vs, rfl, l, hl, hz, h⟩ := seq_v I sr dn e
      exact thn (call_len_seq pins s σ H _ us (fun w H' => w = .int ys.length ∧ H' = H) I rv ⟨q, vs, rfl, h.elim (fun h => .inr h.1) (fun h => .inl h.1), by rw [hl], rfl⟩) fun w s' ⟨wv, H', I', rw, e1, e2⟩ => by
        subst e1; subst e2
        exact ⟨_, _, .int ys.length, M, I', rw, Go.refl sr, by simp only [Den], rfl, rfl⟩
  · cases ez
/-- flags -/
def flags : List D → Option (List Bool)
  | [] => some []
  | .bl b :: r => (flags r).map (b :: ·)
  | _ => none
theorem flags_den {K : PySem.W.Frag} {H : Hp} {M : Mp} : ∀ {ds : List D} {bs : List Bool} {vs : List V}, flags ds = some bs → DenL K H M ds vs → vs = bs.map V.bl
  | [], bs, vs, e, l => by
    simp only [flags, Option.some.injEq] at e; subst e
    simp only [DenL] at l
    exact l
  | d :: ds, bs, vs, e, l => by
    cases d <;> simp only [flags, reduceCtorEq] at e
    rename_i b
    cases q : flags ds with
    | none => rw [q] at e; cases e
    | some cs =>
      rw [q] at e; cases e
      simp only [DenL] at l
      obtain ⟨v, r, rfl, dn, l⟩ := l
      simp only [Den] at dn
      rw [flags_den q l, dn]
      rfl
def nums : List D → Option (List Int)
  | [] => some []
  | .int b :: r => (nums r).map (b :: ·)
  | _ => none
theorem nums_den {K : PySem.W.Frag} {H : Hp} {M : Mp} : ∀ {ds : List D} {bs : List Int} {vs : List V}, nums ds = some bs → DenL K H M ds vs → vs = bs.map V.int
  | [], bs, vs, e, l => by
    simp only [nums, Option.some.injEq] at e; subst e
    simp only [DenL] at l
    exact l
  | d :: ds, bs, vs, e, l => by
    cases d <;> simp only [nums, reduceCtorEq] at e
    rename_i b
    cases q : nums ds with
    | none => rw [q] at e; cases e
    | some cs =>
      rw [q] at e; cases e
      simp only [DenL] at l
      obtain ⟨v, r, rfl, dn, l⟩ := l
      simp only [Den] at dn
      rw [nums_den q l, dn]
      rfl
/-- the items of a list (no tuple) -/
def itemsL (M : Mp) (d : D) : Option (List D) := match d with
  | .tup _ => none
  | d => items M d
theorem itemsL_of {M : Mp} {d : D} {xs : List D} (h : itemsL M d = some xs) : items M d = some xs ∧ ∀ zs, d ≠ .tup zs := by
  cases d <;> first | exact ⟨h, fun _ z => nomatch z⟩ | exact nomatch h
def gAll : OL := fun ds M => match ds with
  | [x] => (itemsL M x).bind fun xs => (flags xs).bind fun bs => some <| .bl (bs.all fun b => b)
  | _ => none
def gAny : OL := fun ds M => match ds with
  | [x] => (itemsL M x).bind fun xs => (flags xs).bind fun bs => some <| .bl (bs.any fun b => b)
  | _ => none
def gSum : OL := fun ds M => match ds with
  | [x] => (items M x).bind fun xs => (nums xs).bind fun bs => some <| .int bs.sum
  | _ => none
def maxI : List Int → Int
  | [] => 0
  | [a] => a
  | a :: r => max a (maxI r)
def minI : List Int → Int
  | [] => 0
  | [a] => a
  | a :: r => min a (minI r)
theorem maxI_spec : ∀ {l : List Int}, l ≠ [] → maxI l ∈ l ∧ ∀ y ∈ l, y ≤ maxI l
  | [], h => absurd rfl h
  | [a], _ => by simp [maxI]
  | a :: b :: r, _ => by
    obtain ⟨h1, h2⟩ := maxI_spec (l := b :: r) (by simp)
    show max a (maxI (b :: r)) ∈ _ ∧ ∀ y ∈ _, y ≤ max a (maxI (b :: r))
    refine ⟨?_, fun y hy => ?_⟩
    · by_cases h : a ≤ maxI (b :: r)
      · rw [Int.max_eq_right h]; exact List.mem_cons_of_mem _ h1
      · rw [Int.max_eq_left (by omega)]; exact List.mem_cons_self
    · rcases List.mem_cons.mp hy with rfl | hy
      · exact Int.le_max_left _ _
      · exact Int.le_trans (h2 y hy) (Int.le_max_right _ _)
theorem minI_spec : ∀ {l : List Int}, l ≠ [] → minI l ∈ l ∧ ∀ y ∈ l, minI l ≤ y
  | [], h => absurd rfl h
  | [a], _ => by simp [minI]
  | a :: b :: r, _ => by
    obtain ⟨h1, h2⟩ := minI_spec (l := b :: r) (by simp)
    show min a (minI (b :: r)) ∈ _ ∧ ∀ y ∈ _, min a (minI (b :: r)) ≤ y
    refine ⟨?_, fun y hy => ?_⟩
    · by_cases h : a ≤ minI (b :: r)
      · rw [Int.min_eq_left h]; exact List.mem_cons_self
      · rw [Int.min_eq_right (by omega)]; exact List.mem_cons_of_mem _ h1
    · rcases List.mem_cons.mp hy with rfl | hy
      · exact Int.min_le_left _ _
      · exact Int.le_trans (Int.min_le_right _ _) (h2 y hy)
def gMax : OL := fun ds M => match ds with
  | [x] => (itemsL M x).bind fun xs => (nums xs).bind fun bs => if bs.isEmpty then none else some (.int (maxI bs))
  | [.int i, .int j] => some (.int (if j > i then j else i))
  | _ => none
def gMin : OL := fun ds M => match ds with
  | [x] => (itemsL M x).bind fun xs => (nums xs).bind fun bs => if bs.isEmpty then none else some (.int (minI bs))
  | [.int i, .int j] => some (.int (if j < i then j else i))
  | _ => none
/-- what a call of one list asks -/
theorem one_list {g : OL} {f : Value} {α : Type} {c : List D → Option α} {r : α → Option D} {rr : List V → Hp → VK → Prop} (hg : ∀ ds M z, g ds M = some z → ∀ d, ds = [d] → (itemsL M d).bind (fun xs => (c xs).bind r) = some z)
    (h : CallR C.X f rr) {m : α → List V} (hc : ∀ {K H M} {xs : List D} {y : α} {vs : List V}, c xs = some y → DenL K H M xs vs → vs = m y)
    (hr : ∀ q y z H (Q : VK), SqL C.X.K H q (m y) → r y = some z → (∀ v, pD z = some v → Q v H) → rr [.ref q] H Q) (hp : ∀ y z, r y = some z → ∃ v, pD z = some v) :
    ∀ (pins : List (Addr × Obj)) (s : Shared) (σ : L2.St) (H : Hp) (M : Mp) (xs : List V) (us : List Value) (d z : D), Inv C.X pins σ H s → SR C H M → Vals xs us → DenL C.X.K H M [d] xs → g [d] M = some z →
    wpAny (model C.X.prog C.X.w) C.X.A (call f us) (EPD C pins σ H M fun z' M' => z' = z ∧ M' = M) C.X.xe s := fun pins s σ H M xs us d z I sr rv l ez => by
  have e := hg _ _ _ ez d rfl
  cases e1 : itemsL M d with
  | none => rw [e1] at e; cases e
  | some ys =>
    rw [e1] at e
    cases e2 : c ys with
    | none => rw [Option.bind_some, e2] at e; cases e
    | some y =>
      rw [Option.bind_some, e2, Option.bind_some] at e
      obtain ⟨v, rfl, dn⟩ := l.one
      obtain ⟨e3, e4⟩ := itemsL_of e1
      obtain ⟨q, vs, rfl, l, hl, hz, h'⟩ := seq_v I sr dn e3
      rcases h' with ⟨_, zs, h'⟩ | ⟨h', _⟩
      · exact absurd h' (e4 zs)
      · rw [hc e2 l] at h'
        obtain ⟨v, hv⟩ := hp y z e
        refine thn (h pins s σ H _ us (fun w H' => w = v ∧ H' = H) I rv (hr q y z H _ h' e fun v' hv' => ?_)) fun w s' ⟨wv, H', I', rw, e1, e2⟩ => ?_
        · rw [hv] at hv'; cases hv'; exact ⟨rfl, rfl⟩
        · subst e1; subst e2
          exact ⟨_, _, z, M, I', rw, Go.refl sr, pD_den hv, rfl, rfl⟩
theorem cl_all (hc : C.X.calm = true) : DCl C (.builtin "all") gAll := fun pins s σ H M xs us ds z I sr rv l ez => by
  match ds, l, ez with
  | [d], l, ez =>
    exact one_list (g := gAll) (c := flags) (r := fun bs => some (.bl (bs.all fun b => b))) (fun ds M z e d hd => by
      subst hd
      exact e) (cr_all hc) (m := fun bs => bs.map V.bl) flags_den
      (fun q y z H Q h e k => ⟨q, y, rfl, h, by cases e; exact k _ rfl⟩) (fun y z e => by cases e; exact ⟨_, rfl⟩) pins s σ H M xs us d z I sr rv l ez
  | [], _, ez => exact nomatch ez
  | _ :: _ :: _, _, ez => exact nomatch ez
theorem cl_any (hc : C.X.calm = true) : DCl C (.builtin "any") gAny := fun pins s σ H M xs us ds z I sr rv l ez => by
  match ds, l, ez with
  | [d], l, ez =>
    exact one_list (g := gAny) (c := flags) (r := fun bs => some (.bl (bs.any fun b => b))) (fun ds M z e d hd => by
      subst hd
      exact e) (cr_any hc) (m := fun bs => bs.map V.bl) flags_den
      (fun q y z H Q h e k => ⟨q, y, rfl, h, by cases e; exact k _ rfl⟩) (fun y z e => by cases e; exact ⟨_, rfl⟩) pins s σ H M xs us d z I sr rv l ez
  | [], _, ez => exact nomatch ez
  | _ :: _ :: _, _, ez => exact nomatch ez
theorem cl_sum (hc : C.X.calm = true) : DCl C (.builtin "sum") gSum := fun pins s σ H M xs us ds z I sr rv l ez => by
  match ds, l, ez with
  | [d], l, ez =>
    have ez' : ((items M d).bind fun xs => (nums xs).bind fun bs => some (D.int bs.sum)) = some z := ez
    cases e1 : items M d with
    | none => rw [e1] at ez'; cases ez'
    | some ys =>
      rw [e1] at ez'
      cases e2 : nums ys with
      | none => rw [Option.bind_some, e2] at ez'; cases ez'
      | some bs =>
        rw [Option.bind_some, e2, Option.bind_some] at ez'
        cases ez'
        obtain ⟨v, rfl, dn⟩ := l.one
        obtain ⟨q, vs, rfl, l, hl, hz, h'⟩ := seq_v I sr dn e1
        have ev := nums_den e2 l
        rcases h' with ⟨h', _⟩ | ⟨h', _⟩
        · rw [ev] at h'
          refine thn (cr_sumT hc pins s σ H _ us (fun w H' => w = .int bs.sum ∧ H' = H) I rv ⟨q, bs, rfl, h', rfl, rfl⟩) fun w s' ⟨wv, H', I', rw, e1, e2⟩ => ?_
          subst e1; subst e2
          exact ⟨_, _, _, M, I', rw, Go.refl sr, pD_den (d := .int bs.sum) rfl, rfl, rfl⟩
        · rw [ev] at h'
          refine thn (cr_sum hc pins s σ H _ us (fun w H' => w = .int bs.sum ∧ H' = H) I rv ⟨q, bs, rfl, h', rfl, rfl⟩) fun w s' ⟨wv, H', I', rw, e1, e2⟩ => ?_
          subst e1; subst e2
          exact ⟨_, _, _, M, I', rw, Go.refl sr, pD_den (d := .int bs.sum) rfl, rfl, rfl⟩
  | [], _, ez => exact nomatch ez
  | _ :: _ :: _, _, ez => exact nomatch ez
theorem cl_max (hc : C.X.calm = true) : DCl C (.builtin "max") gMax := fun pins s σ H M xs us ds z I sr rv l ez => by
  match ds, l, ez with
  | [d], l, ez =>
    refine one_list (g := gMax) (c := nums) (r := fun bs => if bs.isEmpty then none else some (.int (maxI bs))) (fun ds M z e d hd => by
      subst hd
      exact e) (cr_max hc) (m := fun bs => bs.map V.int) nums_den
      (fun q y z H Q h e k => ?_) (fun y z e => ?_) pins s σ H M xs us d z I sr rv l ez
    · cases y with
      | nil => cases e
      | cons n ns =>
        simp only [List.isEmpty_cons, Bool.false_eq_true, if_false, Option.some.injEq] at e
        subst e
        refine ⟨q, _, rfl, h, by simp, fun m hm hle => ?_⟩
        obtain ⟨h1, h2⟩ := maxI_spec (l := n :: ns) (by simp)
        have e : m = maxI (n :: ns) := by
          have a := hle _ h1
          have b := h2 m hm
          omega
        rw [e]
        exact k _ rfl
    · cases y with
      | nil => cases e
      | cons n ns =>
        simp only [List.isEmpty_cons, Bool.false_eq_true, if_false, Option.some.injEq] at e
        subst e
        exact ⟨_, rfl⟩
  | [], _, ez => exact nomatch ez
  | [x, y], l, ez =>
    obtain ⟨v, w, rfl, d1, d2⟩ := l.two
    cases x <;> cases y <;> first | (cases ez; done) | skip
    rename_i i j
    simp only [Den] at d1 d2
    subst d1; subst d2
    cases ez
    exact thn (call_max2 hc pins s σ H _ us (fun w H' => w = .int (if j > i then j else i) ∧ H' = H) I rv ⟨i, j, rfl, rfl, rfl⟩) fun w s' ⟨wv, H', I', rw, e1, e2⟩ => by
      subst e1; subst e2
      exact ⟨_, _, .int (if j > i then j else i), M, I', rw, Go.refl sr, by simp only [Den], rfl, rfl⟩
  | _ :: _ :: _ :: _, _, ez => simp [gMax] at ez
theorem cl_min (hc : C.X.calm = true) : DCl C (.builtin "min") gMin := fun pins s σ H M xs us ds z I sr rv l ez => by
  match ds, l, ez with
  | [d], l, ez =>
    refine one_list (g := gMin) (c := nums) (r := fun bs => if bs.isEmpty then none else some (.int (minI bs))) (fun ds M z e d hd => by
      subst hd
      exact e) (cr_min hc) (m := fun bs => bs.map V.int) nums_den
      (fun q y z H Q h e k => ?_) (fun y z e => ?_) pins s σ H M xs us d z I sr rv l ez
    · cases y with
      | nil => cases e
      | cons n ns =>
        simp only [List.isEmpty_cons, Bool.false_eq_true, if_false, Option.some.injEq] at e
        subst e
        refine ⟨q, _, rfl, h, by simp, fun m hm hle => ?_⟩
        obtain ⟨h1, h2⟩ := minI_spec (l := n :: ns) (by simp)
        have e : m = minI (n :: ns) := by
          have a := hle _ h1
          have b := h2 m hm
          omega
        rw [e]
        exact k _ rfl
    · cases y with
      | nil => cases e
      | cons n ns =>
        simp only [List.isEmpty_cons, Bool.false_eq_true, if_false, Option.some.injEq] at e
        subst e
        exact ⟨_, rfl⟩
  | [], _, ez => exact nomatch ez
  | [x, y], l, ez =>
    obtain ⟨v, w, rfl, d1, d2⟩ := l.two
    cases x <;> cases y <;> first | (cases ez; done) | skip
    rename_i i j
    simp only [Den] at d1 d2
    subst d1; subst d2
    cases ez
    exact thn (call_min2 hc pins s σ H _ us (fun w H' => w = .int (if j < i then j else i) ∧ H' = H) I rv ⟨i, j, rfl, rfl, rfl⟩) fun w s' ⟨wv, H', I', rw, e1, e2⟩ => by
      subst e1; subst e2
      exact ⟨_, _, .int (if j < i then j else i), M, I', rw, Go.refl sr, by simp only [Den], rfl, rfl⟩
  | _ :: _ :: _ :: _, _, ez => simp [gMin] at ez
def gAbs : OL := fun ds _ => match ds with
  | [.int i] => some (.int (if i < 0 then -i else i))
  | _ => none
/-- a rule that asks scalars and gives one -/
theorem cl_sc {f : Value} {r : List V → Hp → VK → Prop} {g : OL} (h : CallR C.X f r) (hr : ∀ (H : Hp) (M : Mp) (xs : List V) (ds : List D) (z : D) (Q : VK), DenL C.X.K H M ds xs → g ds M = some z → (∀ v, pD z = some v → Q v H) → r xs H Q) (hp : ∀ ds M z, g ds M = some z → ∃ v, pD z = some v) : DCl C f g :=
  .of h fun pins s σ H M xs ds z Q I sr l ez k => hr H M xs ds z Q l ez fun v hv => k v H (Go.refl sr) (pD_den hv)
theorem cl_abs : DCl C (.builtin "abs") gAbs := cl_sc call_abs (fun H M xs ds z Q l ez k => by
    unfold gAbs at ez
    split at ez <;> try cases ez
    obtain ⟨v, rfl, dn⟩ := l.one
    simp only [Den] at dn
    subst dn
    exact ⟨_, rfl, k _ rfl⟩) fun ds M z ez => by
  unfold gAbs at ez
  split at ez <;> cases ez
  exact ⟨_, rfl⟩
def gInt : OL := fun ds _ => match ds with
  | [.int i] => some (.int i)
  | [.bl b] => some (.int (if b then 1 else 0))
  | _ => none
theorem cl_int : DCl C (.type "int") gInt := cl_sc call_int1 (fun H M xs ds z Q l ez k => by
    unfold gInt at ez
    split at ez <;> try cases ez
    · obtain ⟨v, rfl, dn⟩ := l.one
      simp only [Den] at dn
      subst dn
      exact .inl ⟨_, rfl, k _ rfl⟩
    · obtain ⟨v, rfl, dn⟩ := l.one
      simp only [Den] at dn
      subst dn
      exact .inr ⟨_, rfl, k _ rfl⟩) fun ds M z ez => by
  unfold gInt at ez
  split at ez <;> cases ez
  · exact ⟨_, rfl⟩
  · exact ⟨_, rfl⟩
/-- tuple(xs), list(xs) -/
def gTuple : OL := fun ds M => match ds with
  | [x] => (items M x).map fun xs => .tup xs
  | _ => none
def gList : OL := fun ds M => match ds with
  | [x] => (items M x).map fun xs => .lst xs
  | _ => none
theorem cl_tuple : DCl C (.type "tuple") gTuple := .of call_tuple_of fun pins s σ H M xs ds z Q I sr l ez k => by
  unfold gTuple at ez
  split at ez <;> try cases ez
  rename_i d
  cases e : items M d with
  | none => rw [e] at ez; cases ez
  | some ys =>
    rw [e] at ez
    cases ez
    obtain ⟨v, rfl, dn⟩ := l.one
    have dn0 := dn
    obtain ⟨q, vs, rfl, l, hl, hz, h⟩ := seq_v I sr dn e
    rcases h with ⟨h, zs, rfl⟩ | ⟨h, _⟩
    · refine ⟨q, vs, rfl, .inr ⟨h, k _ _ (Go.refl sr) ?_⟩⟩
      cases e
      exact dn0
    · refine ⟨q, vs, rfl, .inl ⟨h, fun p hp => ?_⟩⟩
      obtain ⟨g, dn⟩ := new_tup sr hp l
      exact k _ _ g dn
theorem cl_list : DCl C (.type "list") gList := .of call_list_of fun pins s σ H M xs ds z Q I sr l ez k => by
  unfold gList at ez
  split at ez <;> try cases ez
  rename_i d
  cases e : items M d with
  | none => rw [e] at ez; cases ez
  | some ys =>
    rw [e] at ez
    cases ez
    obtain ⟨v, rfl, dn⟩ := l.one
    obtain ⟨q, vs, rfl, l, hl, hz, h⟩ := seq_v I sr dn e
    refine ⟨q, vs, rfl, h.elim (fun h => .inr h.1) (fun h => .inl h.1), fun p hp => ?_⟩
    obtain ⟨g, dn⟩ := new_lst sr hp l
    exact k _ _ g dn
end
end DL

/-! isinstance, ==, in, +, *, items, parts. -/
namespace DL
open PySem PySem.Spec PyProof.Rows L2

/-! ### isinstance against built-in types -/
def typeN (M : Mp) : D → Option String
  | .non => some "NoneType"
  | .bl _ => some "bool"
  | .int _ => some "int"
  | .str _ => some "str"
  | .tup _ => some "tuple"
  | .lst _ => some "list"
  | .scr _ => some "list"
  | .ref a => match M a with
    | some (.lst _) => some "list"
    | _ => none
  | .ty _ => none
  | .dk _ _ => some "dict"
def isiB (t n : String) : Bool := t == n || (t == "bool" && n == "int")
def asked : List String := ["int", "bool", "str", "tuple", "list", "dict"]
def gIsi : OL := fun ds M => match ds with
  | [d, .ty n] => if asked.contains n then (typeN M d).map fun t => .bl (isiB t n) else none
  | _ => none
theorem kit_all : (["NoneType", "bool", "int", "str", "tuple", "list", "dict"].all fun t => asked.all fun n => decide (kitB t n = some (isiB t n))) = true := by decide +kernel
theorem kit_of1 {t n : String} (ht : t ∈ ["NoneType", "bool", "int", "str", "tuple", "list", "dict"]) (hn : n ∈ asked) : kitB t n = some (isiB t n) := by
  have h := List.all_eq_true.mp kit_all t ht
  exact of_decide_eq_true (List.all_eq_true.mp h n hn)
section
variable {C : DC} {e a b : Expr} {es : List Expr} {x : Str} {p pos : Pos} {ta tb te : DE} {t : DA} {id : String}
theorem typeN_ty {H : Hp} {M : Mp} {d : D} {v : V} {t : String} (sr : SR C H M) (dn : Den C.X.K H M d v) (h : typeN M d = some t) : TyX C.X.K H v (.type t) ∧ t ∈ ["NoneType", "bool", "int", "str", "tuple", "list", "dict"] := by
  cases d <;> simp only [typeN, Option.some.injEq, reduceCtorEq] at h <;> simp only [Den] at dn
  case non => subst h; subst dn; exact ⟨.base .non, by simp⟩
  case bl => subst h; subst dn; exact ⟨.base (.bl _), by simp⟩
  case int => subst h; subst dn; exact ⟨.base (.int _), by simp⟩
  case str => subst h; subst dn; exact ⟨.base (.str _), by simp⟩
  case tup =>
    subst h
    obtain ⟨q, vs, rfl, tp, l⟩ := dn
    refine ⟨?_, by simp⟩
    rcases tp with ⟨_, tp | ⟨o, tp⟩⟩ | ⟨o, its, n, k1, k2, _⟩
    · exact .base (.tup tp)
    · exact .fTuple (xs := vs) (o := o) (by
        rw [tp])
    · exact .kTuple k1 k2
  case lst =>
    subst h
    obtain ⟨q, vs, rfl, tp, l⟩ := dn
    exact ⟨.base (.lst tp.2), by simp⟩
  case scr =>
    subst h
    obtain ⟨q, vs, rfl, tp, l⟩ := dn
    refine ⟨?_, by simp⟩
    rcases tp with ⟨_, tp | ⟨o, tp⟩⟩ | ⟨o, its, n, k1, k2, _⟩
    · exact .base (.lst tp)
    · exact .base (.frz tp)
    · exact .kList k1 k2
  case dk =>
    subst h
    obtain ⟨q, vs, rfl, tp, l⟩ := dn
    exact ⟨.base (.dK tp.1.2), by simp⟩
  case ref q =>
    subst dn
    split at h <;> cases h
    rename_i xs hM
    obtain ⟨vs, hH, _⟩ := sr.abs q _ hM
    exact ⟨.base (.lst hH), by simp⟩
theorem cl_isi : DCl C (.builtin "isinstance") gIsi := .of call_isi fun pins s σ H M xs ds z Q I sr l ez k => by
  unfold gIsi at ez
  split at ez <;> try cases ez
  rename_i d n
  split at ez <;> try cases ez
  rename_i hn
  cases e : typeN M d with
  | none => rw [e] at ez; cases ez
  | some t =>
    rw [e] at ez
    cases ez
    obtain ⟨v, w, rfl, d1, d2⟩ := l.two
    obtain ⟨ty, ht⟩ := typeN_ty sr d1 e
    simp only [Den] at d2
    subst d2
    exact ⟨v, .ty n, .type t, .type n, isiB t n, rfl, .ty n, ty, kit_ty (kit_of1 ht (by simpa using hn)), k _ _ (Go.refl sr) (by simp only [Den])⟩

/-! ### == -/
mutual
def deq : D → D → Bool
  | .non, y => match y with
    | .non => true
    | _ => false
  | .bl a, y => match y with
    | .bl b => a == b
    | .int j => (if a then 1 else 0) == j
    | _ => false
  | .int i, y => match y with
    | .bl b => i == (if b then 1 else 0)
    | .int j => i == j
    | _ => false
  | .str a, y => match y with
    | .str b => a == b
    | _ => false
  | .tup xs, y => match y with
    | .tup ys => deqs xs ys
    | _ => false
  | .lst xs, y => match y with
    | .lst ys => deqs xs ys
    | .scr ys => deqs xs ys
    | _ => false
  | .scr xs, y => match y with
    | .lst ys => deqs xs ys
    | .scr ys => deqs xs ys
    | _ => false
  | .ref _, _ => false
  | .ty _, _ => false
  | .dk _ _, _ => false
def deqs : List D → List D → Bool
  | [], ys => ys.isEmpty
  | x :: xs, ys => match ys with
    | [] => false
    | y :: ys => deq x y && deqs xs ys
end
/-- plain data, nested at most n deep -/
def shp : Nat → D → Bool
  | _, .non => true
  | _, .bl _ => true
  | _, .int _ => true
  | _, .str s => PyData.strOk s
  | 0, .tup _ => false
  | 0, .lst _ => false
  | 0, .scr _ => false
  | n + 1, .tup xs => xs.all (shp n)
  | n + 1, .lst xs => xs.all (shp n)
  | n + 1, .scr xs => xs.all (shp n)
  | _, .ref _ => false
  | _, .ty _ => false
  | _, .dk _ _ => false
mutual
def pyT : D → PyData
  | .non => .none
  | .bl b => .bool b
  | .int i => .int i
  | .str s => .str s
  | .tup xs => .tuple (pyTs xs)
  | .lst xs => .list (pyTs xs)
  | .scr xs => .list (pyTs xs)
  | .ref _ => .none
  | .ty _ => .none
  | .dk _ _ => .none
def pyTs : List D → List PyData
  | [] => []
  | x :: xs => pyT x :: pyTs xs
end
theorem pyTs_map : ∀ xs : List D, pyTs xs = xs.map pyT
  | [] => by simp only [pyTs, List.map_nil]
  | x :: xs => by simp only [pyTs, List.map_cons, pyTs_map xs]
theorem shp_mono : ∀ {n m : Nat} {d : D}, n ≤ m → shp n d = true → shp m d = true := by
  intro n
  induction n with
  | zero =>
    intro m d h e
    cases d <;> simp only [shp, Bool.false_eq_true] at e <;> (cases m <;> simp only [shp] <;> exact e)
  | succ n ih =>
    intro m d h e
    obtain ⟨m, rfl⟩ : ∃ k, m = k + 1 := ⟨m - 1, by omega⟩
    cases d <;> simp only [shp, Bool.false_eq_true] at e ⊢ <;> try exact e
    all_goals
      exact List.all_eq_true.mpr fun x hx => ih (by omega) (List.all_eq_true.mp e x hx)
theorem canLayAll_of {l : List PyData} (h : ∀ x ∈ l, x.canLay0 = true) : PyData.canLayAll0 l = true := by
  induction l with
  | nil => simp [PyData.canLayAll0]
  | cons x l ih => simp only [PyData.canLayAll0, Bool.and_eq_true]; exact ⟨h x List.mem_cons_self, ih fun y hy => h y (List.mem_cons_of_mem _ hy)⟩
theorem depthAll_of {l : List PyData} {n : Nat} (h : ∀ x ∈ l, x.depth ≤ n) : PyData.depthAll l ≤ n := by
  induction l with
  | nil => simp [PyData.depthAll]
  | cons x l ih =>
    simp only [PyData.depthAll]
    exact Nat.max_le.mpr ⟨h x List.mem_cons_self, ih fun y hy => h y (List.mem_cons_of_mem _ hy)⟩
theorem shp_shaped : ∀ {n : Nat} {d : D}, shp n d = true → (pyT d).canLay0 = true ∧ (pyT d).depth ≤ n := by
  intro n
  induction n with
  | zero =>
    intro d h
    cases d <;> simp only [shp, Bool.false_eq_true] at h <;> simp [pyT, PyData.canLay0, PyData.depth, h]
  | succ n ih =>
    intro d h
    cases d <;> simp only [shp, Bool.false_eq_true] at h <;> try (simp [pyT, PyData.canLay0, PyData.depth, h]; done)
    all_goals
      rename_i xs
      have hx := List.all_eq_true.mp h
      simp only [pyT, PyData.canLay0, PyData.depth, pyTs_map]
      refine ⟨canLayAll_of fun y hy => ?_, ?_⟩
      · obtain ⟨z, hz, rfl⟩ := List.mem_map.mp hy
        exact (ih (hx z hz)).1
      · have := depthAll_of (l := xs.map pyT) (n := n) fun y hy => by
          obtain ⟨z, hz, rfl⟩ := List.mem_map.mp hy
          exact (ih (hx z hz)).2
        omega
theorem shp_ok {d : D} (h : shp 64 d = true) : SeqAt.shaped (pyT d) = true := by
  obtain ⟨h1, h2⟩ := shp_shaped h
  unfold SeqAt.shaped
  rw [h1, decide_eq_true h2]
  rfl
mutual
theorem eqv_deq : ∀ (x y : D), (∃ n, shp n x = true) → (∃ n, shp n y = true) → PyData.eqv (pyT x) (pyT y) = deq x y
  | .non, y, _, ⟨n, h⟩ => by cases y <;> first | simp [pyT, PyData.eqv, deq]; done | (cases n <;> simp [shp] at h; done)
  | .bl a, y, _, ⟨n, h⟩ => by cases y <;> first | simp [pyT, PyData.eqv, deq]; done | (cases n <;> simp [shp] at h; done)
  | .int a, y, _, ⟨n, h⟩ => by cases y <;> first | simp [pyT, PyData.eqv, deq]; done | (cases n <;> simp [shp] at h; done)
  | .str a, y, _, ⟨n, h⟩ => by cases y <;> first | simp [pyT, PyData.eqv, deq]; done | (cases n <;> simp [shp] at h; done)
  | .ref a, y, ⟨n, h⟩, _ => by cases n <;> simp [shp] at h
  | .ty a, y, ⟨n, h⟩, _ => by cases n <;> simp [shp] at h
  | .dk a b, y, ⟨n, h⟩, _ => by cases n <;> simp [shp] at h
  | .tup xs, y, ⟨m, hm⟩, ⟨n, h⟩ => by
    cases m with
    | zero => simp [shp] at hm
    | succ m =>
      simp only [shp] at hm
      cases y <;> try (first | simp [pyT, PyData.eqv, deq]; done | (cases n <;> simp [shp] at h; done))
      rename_i ys
      cases n with
      | zero => simp [shp] at h
      | succ n =>
        simp only [shp] at h
        simp only [pyT, PyData.eqv, deq]
        exact eqv_deqs xs ys ⟨m, hm⟩ ⟨n, h⟩
  | .lst xs, y, ⟨m, hm⟩, ⟨n, h⟩ => by
    cases m with
    | zero => simp [shp] at hm
    | succ m =>
      simp only [shp] at hm
      cases y <;> try (first | simp [pyT, PyData.eqv, deq]; done | (cases n <;> simp [shp] at h; done))
      all_goals
        rename_i ys
        cases n with
        | zero => simp [shp] at h
        | succ n =>
          simp only [shp] at h
          simp only [pyT, PyData.eqv, deq]
          exact eqv_deqs xs ys ⟨m, hm⟩ ⟨n, h⟩
  | .scr xs, y, ⟨m, hm⟩, ⟨n, h⟩ => by
    cases m with
    | zero => simp [shp] at hm
    | succ m =>
      simp only [shp] at hm
      cases y <;> try (first | simp [pyT, PyData.eqv, deq]; done | (cases n <;> simp [shp] at h; done))
      all_goals
        rename_i ys
        cases n with
        | zero => simp [shp] at h
        | succ n =>
          simp only [shp] at h
          simp only [pyT, PyData.eqv, deq]
          exact eqv_deqs xs ys ⟨m, hm⟩ ⟨n, h⟩
theorem eqv_deqs : ∀ (xs ys : List D), (∃ n, xs.all (shp n) = true) → (∃ n, ys.all (shp n) = true) → PyData.eqvAll (pyTs xs) (pyTs ys) = deqs xs ys
  | [], [], _, _ => by simp [pyTs, PyData.eqvAll, deqs]
  | [], _ :: _, _, _ => by simp [pyTs, PyData.eqvAll, deqs]
  | _ :: _, [], _, _ => by simp [pyTs, PyData.eqvAll, deqs]
  | x :: xs, y :: ys, ⟨m, hm⟩, ⟨n, h⟩ => by
    simp only [List.all_cons, Bool.and_eq_true] at hm h
    simp only [pyTs, PyData.eqvAll, deqs]
    rw [eqv_deq x y ⟨m, hm.1⟩ ⟨n, h.1⟩, eqv_deqs xs ys ⟨m, hm.2⟩ ⟨n, h.2⟩]
end
/-- a list that may be changed, as it stands -/
def deref (M : Mp) : D → D
  | .ref a => match M a with
    | some (.lst xs) => .lst xs
    | _ => .ref a
  | d => d
mutual
theorem den_dp {K : PySem.W.Frag} {H : Hp} {M : Mp} : ∀ (d : D) {v : V}, (∃ n, shp n d = true) → Den K H M d v → Dp K H v (pyT d)
  | .non, _, _, h => by simp only [Den] at h; subst h; simp only [pyT]; exact .non
  | .bl _, _, _, h => by simp only [Den] at h; subst h; simp only [pyT]; exact .bl _
  | .int _, _, _, h => by simp only [Den] at h; subst h; simp only [pyT]; exact .int _
  | .str _, _, _, h => by simp only [Den] at h; subst h; simp only [pyT]; exact .str _
  | .ref _, _, ⟨n, q⟩, _ => by cases n <;> simp [shp] at q
  | .ty _, _, ⟨n, q⟩, _ => by cases n <;> simp [shp] at q
  | .dk _ _, _, ⟨n, q⟩, _ => by cases n <;> simp [shp] at q
  | .tup xs, _, ⟨n, q⟩, h => by
    cases n with
    | zero => simp [shp] at q
    | succ n =>
      simp only [shp] at q
      simp only [Den] at h
      obtain ⟨a, vs, rfl, t, l⟩ := h
      simp only [pyT]
      exact .tup t.sq (den_dps xs ⟨n, q⟩ l)
  | .lst xs, _, ⟨n, q⟩, h => by
    cases n with
    | zero => simp [shp] at q
    | succ n =>
      simp only [shp] at q
      simp only [Den] at h
      obtain ⟨a, vs, rfl, t, l⟩ := h
      simp only [pyT]
      exact .lst t.sq (den_dps xs ⟨n, q⟩ l)
  | .scr xs, _, ⟨n, q⟩, h => by
    cases n with
    | zero => simp [shp] at q
    | succ n =>
      simp only [shp] at q
      simp only [Den] at h
      obtain ⟨a, vs, rfl, t, l⟩ := h
      simp only [pyT]
      exact .lst t.sq (den_dps xs ⟨n, q⟩ l)
theorem den_dps {K : PySem.W.Frag} {H : Hp} {M : Mp} : ∀ (ds : List D) {vs : List V}, (∃ n, ds.all (shp n) = true) → DenL K H M ds vs → DpAll K H vs (pyTs ds)
  | [], _, _, h => by simp only [DenL] at h; subst h; simp only [pyTs]; exact .nil
  | d :: ds, _, ⟨n, q⟩, h => by
    simp only [List.all_cons, Bool.and_eq_true] at q
    simp only [DenL] at h
    obtain ⟨v, r, rfl, x, y⟩ := h
    simp only [pyTs]
    exact .cons (den_dp d ⟨n, q.1⟩ x) (den_dps ds ⟨n, q.2⟩ y)
end
theorem deref_dp {H : Hp} {M : Mp} {d : D} {v : V} (ab : Abs C.X.K H M) (h : shp 64 (deref M d) = true) (dn : Den C.X.K H M d v) : Dp C.X.K H v (pyT (deref M d)) := by
  cases d <;> try exact den_dp _ ⟨64, h⟩ dn
  rename_i q
  simp only [Den] at dn
  subst dn
  unfold deref at h ⊢
  simp only at h ⊢
  split at h
  · rename_i xs hM
    obtain ⟨vs, hH, l⟩ := ab q _ hM
    simp only [shp] at h
    simp only [pyT]
    exact .lst (.inl (.inl hH)) (den_dps xs ⟨_, h⟩ l)
  · simp [shp] at h
def fEq : O2 := fun x y M => match x, y with
  | .str a, .str b => some (.bl (decide (a = b)))
  | _, _ => if shp 64 (deref M x) = true ∧ shp 64 (deref M y) = true then some (.bl (deq (deref M x) (deref M y))) else none
def fNe : O2 := fun x y M => match x, y with
  | .str a, .str b => some (.bl (!decide (a = b)))
  | _, _ => if shp 64 (deref M x) = true ∧ shp 64 (deref M y) = true then some (.bl (!deq (deref M x) (deref M y))) else none
theorem DC.un64 (C : DC) : C.X.A.units + 65 < cLine := by have := C.un; omega
theorem dop_eq : DOp C (compareOp .Eq) fEq := fun pins s σ H M x y u v d e z I sr r1 r2 d1 d2 ez => by
  unfold fEq at ez
  split at ez
  · cases ez
    rename_i a b
    simp only [Den] at d1 d2
    refine thn (op_eq pins s σ H x y u v (fun w H' => H' = H ∧ w = .bl (decide (a = b))) I r1 r2 ⟨by rw [d1, d2]; rfl, rfl, by rw [d1, d2]; simp⟩) fun w s' ⟨wv, H', I', rw, e1, e2⟩ => ?_
    subst e1; subst e2
    exact ⟨_, H', _, M, I', rw, Go.refl sr, by simp only [Den], rfl, rfl⟩
  · refine DOp.of (f := fun x y M => if shp 64 (deref M x) = true ∧ shp 64 (deref M y) = true then some (.bl (deq (deref M x) (deref M y))) else none) (op_eqD (by have := C.un64; omega)) (fun pins s σ H M x y d e z Q I sr d1 d2 ez k => ?_) pins s σ H M x y u v d e z I sr r1 r2 d1 d2 ez
    split at ez <;> cases ez
    rename_i h
    refine ⟨_, _, deref_dp sr.abs h.1 d1, deref_dp sr.abs h.2 d2, shp_ok h.1, shp_ok h.2, ?_⟩
    rw [eqv_deq _ _ ⟨_, h.1⟩ ⟨_, h.2⟩]
    exact k _ _ (Go.refl sr) (by simp only [Den])
theorem dop_ne : DOp C (compareOp .NotEq) fNe := fun pins s σ H M x y u v d e z I sr r1 r2 d1 d2 ez => by
  unfold fNe at ez
  split at ez
  · cases ez
    rename_i a b
    simp only [Den] at d1 d2
    refine thn (op_ne pins s σ H x y u v (fun w H' => H' = H ∧ w = .bl (!decide (a = b))) I r1 r2 ⟨by rw [d1, d2]; rfl, rfl, by rw [d1, d2]; simp⟩) fun w s' ⟨wv, H', I', rw, e1, e2⟩ => ?_
    subst e1; subst e2
    exact ⟨_, H', _, M, I', rw, Go.refl sr, by simp only [Den], rfl, rfl⟩
  · refine DOp.of (f := fun x y M => if shp 64 (deref M x) = true ∧ shp 64 (deref M y) = true then some (.bl (!deq (deref M x) (deref M y))) else none) (op_neD (by have := C.un64; omega)) (fun pins s σ H M x y d e z Q I sr d1 d2 ez k => ?_) pins s σ H M x y u v d e z I sr r1 r2 d1 d2 ez
    split at ez <;> cases ez
    rename_i h
    refine ⟨_, _, deref_dp sr.abs h.1 d1, deref_dp sr.abs h.2 d2, shp_ok h.1, shp_ok h.2, ?_⟩
    rw [eqv_deq _ _ ⟨_, h.1⟩ ⟨_, h.2⟩]
    exact k _ _ (Go.refl sr) (by simp only [Den])
/-! ### in -/
def fIn : O2 := fun x y M => match y with
  | .str _ => none
  | _ => (items M y).bind fun ys => if shp 64 (deref M x) = true ∧ ys.all (shp 63) = true then some (.bl (ys.any fun z => deq z (deref M x))) else none
def fNotIn : O2 := fun x y M => match y with
  | .str _ => none
  | _ => (items M y).bind fun ys => if shp 64 (deref M x) = true ∧ ys.all (shp 63) = true then some (.bl (!ys.any fun z => deq z (deref M x))) else none
theorem any_deq {ys : List D} {x : D} (hx : shp 64 x = true) (hy : ys.all (shp 63) = true) : (pyTs ys).any (fun y => PyData.eqv y (pyT x)) = ys.any fun z => deq z x := by
  rw [pyTs_map, List.any_map]
  have h := List.all_eq_true.mp hy
  clear hy
  induction ys with
  | nil => rfl
  | cons y ys ih =>
    simp only [List.any_cons, Function.comp_apply]
    rw [eqv_deq y x ⟨63, h y List.mem_cons_self⟩ ⟨64, hx⟩, ih fun z hz => h z (List.mem_cons_of_mem _ hz)]
/-- what a search in a sequence reads -/
theorem in_reads {pins : List (Addr × Obj)} {s : Shared} {σ : L2.St} {H : Hp} {M : Mp} {d e : D} {x y : V} {u v : Value} {ys : List D} (I : Inv C.X pins σ H s) (sr : SR C H M) (r1 : RelV x u) (r2 : RelV y v) (d1 : Den C.X.K H M d x) (d2 : Den C.X.K H M e y)
    (he : items M e = some ys) (hx : shp 64 (deref M d) = true) (hy : ys.all (shp 63) = true) :
    ∃ as bs, Reads s.heap u (pyT (deref M d)) bs ∧ PyData.canLayAll0 (pyTs ys) = true ∧ (pyT (deref M d)).canLay0 = true ∧ C.X.A.units + 1 + min (PyData.depthAll (pyTs ys)) (pyT (deref M d)).depth < cLine ∧ (Reads s.heap v (.list (pyTs ys)) as ∨ Reads s.heap v (.tuple (pyTs ys)) as) := by
  obtain ⟨bs, rx⟩ := Dp.reads I _ x u (deref_dp sr.abs hx d1) r1
  obtain ⟨q, vs, rfl, l, hl, hz, h⟩ := seq_v I sr d2 he
  have ds := den_dps ys ⟨63, hy⟩ l
  have hs : shp 64 (.lst ys) = true := by simp only [shp]; exact hy
  have sh := shp_ok hs
  simp only [pyT] at sh
  have hc : PyData.canLayAll0 (pyTs ys) = true := SeqAt.canLay_of_shaped sh
  have room : C.X.A.units + 1 + min (PyData.depthAll (pyTs ys)) (pyT (deref M d)).depth < cLine := by
    have h1 := SeqAt.depth_of_shaped (shp_ok hx)
    have h2 := C.un64
    have h3 : min (PyData.depthAll (pyTs ys)) (pyT (deref M d)).depth ≤ (pyT (deref M d)).depth := Nat.min_le_right _ _
    omega
  rcases h with ⟨h, _⟩ | ⟨h, _⟩
  · obtain ⟨as, ry⟩ := Dp.reads I (.tuple (pyTs ys)) _ v (.tup h ds) r2
    exact ⟨as, bs, rx, hc, (shp_shaped hx).1, room, .inr ry⟩
  · obtain ⟨as, ry⟩ := Dp.reads I (.list (pyTs ys)) _ v (.lst h ds) r2
    exact ⟨as, bs, rx, hc, (shp_shaped hx).1, room, .inl ry⟩
theorem dop_in : DOp C (compareOp .In) fIn := fun pins s σ H M x y u v d e z I sr r1 r2 d1 d2 ez => by
  unfold fIn at ez
  split at ez
  · cases ez
  · cases q : items M e with
    | none => rw [q] at ez; cases ez
    | some ys =>
      rw [q, Option.bind_some] at ez
      split at ez <;> cases ez
      rename_i h
      obtain ⟨as, bs, rx, hc, hd, room, ry⟩ := in_reads I sr r1 r2 d1 d2 q h.1 h.2
      have fin : EPD C pins σ H M (fun z' M' => z' = .bl (ys.any fun z => deq z (deref M d)) ∧ M' = M) (.bool ((pyTs ys).any fun y => PyData.eqv y (pyT (deref M d)))) s :=
        ⟨.bl _, H, _, M, I, rfl, Go.refl sr, by rw [any_deq h.1 h.2]; simp only [Den], rfl, rfl⟩
      rcases ry with ry | ry
      · exact SeqAt.in_list_reads ry rx hc hd room fin
      · exact SeqAt.in_tuple_reads ry rx hc hd room fin
theorem dop_notIn : DOp C (compareOp .NotIn) fNotIn := fun pins s σ H M x y u v d e z I sr r1 r2 d1 d2 ez => by
  unfold fNotIn at ez
  split at ez
  · cases ez
  · cases q : items M e with
    | none => rw [q] at ez; cases ez
    | some ys =>
      rw [q, Option.bind_some] at ez
      split at ez <;> cases ez
      rename_i h
      obtain ⟨as, bs, rx, hc, hd, room, ry⟩ := in_reads I sr r1 r2 d1 d2 q h.1 h.2
      have fin : EPD C pins σ H M (fun z' M' => z' = .bl (!ys.any fun z => deq z (deref M d)) ∧ M' = M) (.bool (!(pyTs ys).any fun y => PyData.eqv y (pyT (deref M d)))) s :=
        ⟨.bl _, H, _, M, I, rfl, Go.refl sr, by rw [any_deq h.1 h.2]; simp only [Den], rfl, rfl⟩
      rcases ry with ry | ry
      · exact SeqAt.notIn_list_reads ry rx hc hd room fin
      · exact SeqAt.notIn_tuple_reads ry rx hc hd room fin
end
end DL

/-! +, *, items, parts, list methods, sorted, repr over data. -/
namespace DL
open PySem PySem.Spec PyProof.Rows L2
section
variable {C : DC} {e a b o : Expr} {es : List Expr} {x : Str} {p pos : Pos} {ta tb te to : DE} {t : DA} {id : String}

/-! ### + -/
def fAdd : O2 := fun x y M => match x with
  | .int i => (match y with
    | .int j => some (.int (i + j))
    | _ => none)
  | .str s => (match y with
    | .str z => if s.length + z.length ≤ sizeLine then some (.str (s ++ z)) else none
    | _ => none)
  | .tup xs => (match y with
    | .tup ys => if xs.length + ys.length ≤ sizeLine then some (.tup (xs ++ ys)) else none
    | _ => none)
  | _ => (match deref M x, deref M y with
    | .lst xs, .lst ys => if xs.length + ys.length ≤ sizeLine then some (.lst (xs ++ ys)) else none
    | _, _ => none)
theorem deref_lst {H : Hp} {M : Mp} {d : D} {v : V} {xs : List D} (ab : Abs C.X.K H M) (h : deref M d = .lst xs) (dn : Den C.X.K H M d v) : ∃ q vs, v = .ref q ∧ H q = some (.lst vs) ∧ DenL C.X.K H M xs vs := by
  cases d <;> simp only [deref, reduceCtorEq, D.lst.injEq] at h
  case lst ys =>
    subst h
    simp only [Den] at dn
    obtain ⟨q, vs, rfl, t, l⟩ := dn
    exact ⟨q, vs, rfl, t.2, l⟩
  case ref q =>
    simp only [Den] at dn
    subst dn
    split at h
    · rename_i ys hM
      cases h
      obtain ⟨vs, hH, l⟩ := ab q _ hM
      exact ⟨q, vs, rfl, hH, l⟩
    · cases h
theorem dop_add : DOp C (binaryOp .Add) fAdd := fun pins s σ H M x y u v d e z I sr r1 r2 d1 d2 ez => by
  have fin : ∀ {F : Value → Value → Sem Value} {r : R2} (_ : OpR C.X F r), r x y H (fun w H' => Go C H M H' M ∧ Den C.X.K H' M z w) → wpAny (model C.X.prog C.X.w) C.X.A (F u v) (EPD C pins σ H M fun z' M' => z' = z ∧ M' = M) C.X.xe s := fun {F r} h q =>
    thn (h pins s σ H x y u v _ I r1 r2 q) fun w s' ⟨wv, H', I', rw, g, dn⟩ => ⟨wv, H', z, M, I', rw, g, dn, rfl, rfl⟩
  have lists : ∀ xs ys, deref M d = .lst xs → deref M e = .lst ys → xs.length + ys.length ≤ sizeLine → z = .lst (xs ++ ys) → wpAny (model C.X.prog C.X.w) C.X.A (binaryOp .Add u v) (EPD C pins σ H M fun z' M' => z' = z ∧ M' = M) C.X.xe s := fun xs ys h1 h2 hz he => by
    subst he
    obtain ⟨q, vs, rfl, hq, l1⟩ := deref_lst sr.abs h1 d1
    obtain ⟨q', ws, rfl, hq', l2⟩ := deref_lst sr.abs h2 d2
    exact fin op_cat ⟨q, q', vs, ws, rfl, rfl, hq, hq', by rw [l1.length, l2.length]; exact hz, fun p hp => new_lst sr hp (l1.append l2)⟩
  unfold fAdd at ez
  split at ez
  · split at ez <;> cases ez
    simp only [Den] at d1 d2
    exact fin op_add ⟨_, _, d1, d2, Go.refl sr, by simp only [Den]⟩
  · split at ez <;> try cases ez
    split at ez <;> cases ez
    rename_i hz
    simp only [Den] at d1 d2
    exact fin op_add_str ⟨_, _, d1, d2, hz, Go.refl sr, by simp only [Den]⟩
  · split at ez <;> try cases ez
    split at ez <;> cases ez
    rename_i xs _ ys hz
    have d1' := d1
    have d2' := d2
    simp only [Den] at d1 d2
    obtain ⟨q, vs, rfl, t1, l1⟩ := d1
    obtain ⟨q', ws, rfl, t2, l2⟩ := d2
    refine fin op_catA ⟨q, q', vs, ws, rfl, rfl, t1.sq, t2.sq, by rw [l1.length, l2.length]; exact hz, fun h0 => ?_, fun _ h0 => ?_, fun _ _ p hp => new_tup sr hp (l1.append l2)⟩
    · subst h0
      have := l1.length
      have e : xs = [] := List.length_eq_zero_iff.mp this.symm
      subst e
      exact ⟨Go.refl sr, d2'⟩
    · subst h0
      have := l2.length
      have e : ys = [] := List.length_eq_zero_iff.mp this.symm
      subst e
      rw [List.append_nil]
      exact ⟨Go.refl sr, d1'⟩
  · split at ez
    · split at ez <;> cases ez
      rename_i h1 h2 hz
      exact lists _ _ h1 h2 hz rfl
    · cases ez

/-! ### items -/
def fIx : O2 := fun x y M => match y with
  | .int i => (match x with
    | .str z => if z.length ≤ sizeLine then (L2.atI z.cps.toList i).map fun c => .str ⟨#[c]⟩ else none
    | _ => (items M x).bind fun xs => L2.atI xs i)
  | _ => none
theorem atI_den {K : PySem.W.Frag} {H : Hp} {M : Mp} {xs : List D} {vs : List V} {i : Int} {d : D} (l : DenL K H M xs vs) (h : L2.atI xs i = some d) : ∃ v, L2.atI vs i = some v ∧ Den K H M d v := by
  unfold L2.atI at h ⊢
  rw [l.length]
  cases q : L2.ixN xs.length i with
  | none => rw [q] at h; cases h
  | some j =>
    rw [q, Option.bind_some] at h
    rw [Option.bind_some]
    exact l.get h
theorem dop_ix {va sl : Expr} (hs : PlainIx sl) : DOp C (subscriptTail va sl) fIx := fun pins s σ H M x y u v d e z I sr r1 r2 d1 d2 ez => by
  have fin : ∀ {r : R2} (_ : IxR C.X r), r x y H (fun w H' => H' = H ∧ Den C.X.K H M z w) → wpAny (model C.X.prog C.X.w) C.X.A (subscriptTail va sl u v) (EPD C pins σ H M fun z' M' => z' = z ∧ M' = M) C.X.xe s := fun {r} h q =>
    thn (h va sl pins s σ H x y u v _ I r1 r2 q (hs _ _)) fun w s' ⟨wv, H', I', rw, eH, dn⟩ => by subst eH; exact ⟨wv, _, z, M, I', rw, Go.refl sr, dn, rfl, rfl⟩
  unfold fIx at ez
  split at ez
  · rename_i i
    simp only [Den] at d2
    subst d2
    split at ez
    · rename_i zz
      split at ez <;> try cases ez
      rename_i hz
      cases q : L2.atI zz.cps.toList i with
      | none => rw [q] at ez; cases ez
      | some c =>
        rw [q] at ez; cases ez
        simp only [Den] at d1
        exact fin ix_str ⟨zz, i, c, d1, rfl, hz, q, rfl, by simp only [Den]⟩
    · cases q : items M d with
      | none => rw [q] at ez; cases ez
      | some xs =>
        rw [q, Option.bind_some] at ez
        obtain ⟨q', vs, rfl, l, hl, hz, h⟩ := seq_v I sr d1 q
        obtain ⟨w, hw, dw⟩ := atI_den l ez
        rcases h with ⟨h, _⟩ | ⟨h, _⟩
        · exact fin ix_tup ⟨q', vs, i, w, rfl, rfl, h, hw, rfl, dw⟩
        · exact fin ix_list ⟨q', vs, i, w, rfl, rfl, h, hw, rfl, dw⟩
  · cases ez
theorem de_ix (ha : DPE C a ta) (hb : DPE C b tb) (hs : PlainIx b := by intro _ _; rfl) : DPE C (.Subscript a b pos) (dOp fIx ta tb) :=
  ⟨mono_op ha.mono hb.mono, fun pins s σ H τ M Q I er sr q => Subscript_ (bin2 (F := subscriptTail a b) (dop_ix hs) ha hb I er sr q)⟩

/-! ### parts -/
abbrev DO := Sd → Mp → (Option Int → Mp → Prop) → DX → Prop
def MonoO (t : DO) : Prop := ∀ (τ : Sd) (M : Mp) (Q Q' : Option Int → Mp → Prop) (E E' : DX), (∀ d M', Q d M' → Q' d M') → (∀ c fs M', E c fs M' → E' c fs M') → t τ M Q E → t τ M Q' E'
structure DPO (C : DC) (e : Option Expr) (t : DO) : Prop where
  mono : MonoO t
  go : ∀ (pins : List (Addr × Obj)) (s : Shared) (σ : L2.St) (H : Hp) (τ : Sd) (M : Mp) (Q : Option Int → Mp → Prop), Inv C.X pins σ H s → EnvR C.X.K H M τ σ → SR C H M → t τ M Q (xw C τ) →
    wpAny (model C.X.prog C.X.w) C.X.A (evalPart e C.X.env) (fun u s' => ∃ o H' M', Inv C.X pins σ H' s' ∧ IsPart u o ∧ Go C H M H' M' ∧ Q o M') C.X.xe s
def oNone : DO := fun _ M Q _ => Q none M
def oSome (t : DE) : DO := fun τ M Q E => t τ M (fun d M1 => match d with
  | .int i => Q (some i) M1
  | _ => False) E
theorem do_none : DPO C none oNone := ⟨fun τ M Q Q' E E' h _ q => h _ _ q, fun pins s σ H τ M Q I er sr q => by
  rw [evalPart_none]
  exact wpAny_pure ⟨none, H, M, I, .none, Go.refl sr, q⟩⟩
theorem do_some (h : DPE C e te) : DPO C (some e) (oSome te) := ⟨fun τ M Q Q' E E' h1 he q => h.mono τ M _ _ _ _ (fun d M1 z => by
    cases d <;> first | exact h1 _ _ z | exact z) he q, fun pins s σ H τ M Q I er sr q => by
  rw [evalPart_some]
  refine thn (h.go pins s σ H τ M _ I er sr q) fun u s1 ⟨x, H1, d, M1, I1, r1, g1, dn1, q1⟩ => ?_
  cases d <;> try exact q1.elim
  simp only [Den] at dn1
  subst dn1
  obtain ⟨t, rfl⟩ := r1
  exact ⟨_, H1, M1, I1, .int _ t, g1, q1⟩⟩
def cutD (xs : List D) (lo hi : Option Int) : List D := (xs.drop (HT.sIx xs.length 0 lo)).take (HT.sIx xs.length xs.length hi - HT.sIx xs.length 0 lo)
def part (M : Mp) (d : D) (lo hi : Option Int) : Option D := match d with
  | .str z => if z.length ≤ sizeLine then some (.str (cutS z lo hi)) else none
  | .tup xs => some (.tup (cutD xs lo hi))
  | d => (items M d).map fun xs => .lst (cutD xs lo hi)
theorem DenL.cut {K : PySem.W.Frag} {H : Hp} {M : Mp} {xs : List D} {vs : List V} (l : DenL K H M xs vs) (lo hi : Option Int) : DenL K H M (cutD xs lo hi) (cutV vs lo hi) := by
  unfold cutD cutV
  rw [l.length]
  exact (l.drop _).take _
def dPart (te : DE) (tl th : DO) : DE := fun τ M Q E => te τ M (fun x M1 => tl τ M1 (fun lo M2 => th τ M2 (fun hi M3 => ok1 (part M3 x lo hi) fun z => Q z M3) E) E) E
theorem mono_part {tl th : DO} (m : MonoE te) (n : MonoO tl) (o : MonoO th) : MonoE (dPart te tl th) := fun τ M Q Q' E E' h he q =>
  m τ M _ _ _ _ (fun x M1 => n τ M1 _ _ _ _ (fun lo M2 => o τ M2 _ _ _ _ (fun hi M3 => ok1_mono fun z => h z M3) he) he) he q
theorem de_part {lo hi : Option Expr} {tl th : DO} {p2 : Pos} (he : DPE C e te) (hl : DPO C lo tl) (hu : DPO C hi th) : DPE C (.Subscript e (.Slice lo hi none p2) pos) (dPart te tl th) := ⟨mono_part he.mono hl.mono hu.mono, fun pins s σ H τ M Q I er sr q => by
  refine Subscript_ (thn (he.go pins s σ H τ M _ I er sr q) fun v s1 ⟨x, H1, d, M1, I1, r1, g1, dn1, q1⟩ => ?_)
  refine wpAny_Slice (thn (hl.go pins s1 σ H1 τ M1 _ I1 (er.keep g1.keep) (sr.go g1) q1) fun vl s2 ⟨l, H2, M2, I2, pl, g2, q2⟩ => thn (hu.go pins s2 σ H2 τ M2 _ I2 (er.keep (g1.trans g2).keep) ((sr.go g1).go g2) q2) fun vu s3 ⟨u, H3, M3, I3, pu, g3, q3⟩ => ?_)
  rw [evalPart_none]
  refine wpAny_pure ?_
  have I4 : Inv C.X pins σ H3 { s3 with heap := s3.heap.push { cls := .type "slice", data := .fields #[vl, vu, .none] } } := I3.kept (t' := s3.toks) fun b ob q => Heap.get?_push_of_some _ q
  obtain ⟨z, ez, q3⟩ := ok1_ex q3
  have g13 := (g1.trans g2).trans g3
  have sr3 := sr.go g13
  have dn3 := Den.keep (g2.trans g3).keep d dn1
  have fin : ∀ {r : V → Option Int → Option Int → Hp → VK → Prop} (_ : SlR C.X r), r x l u H3 (fun w H' => Go C H3 M3 H' M3 ∧ Den C.X.K H' M3 z w) →
      wpAny (model C.X.prog C.X.w) C.X.A (subscriptTail e (.Slice lo hi none p2) v (.ref s3.heap.objs.size)) (EPD C pins σ H M Q) C.X.xe { s3 with heap := s3.heap.push { cls := .type "slice", data := .fields #[vl, vu, .none] } } := fun {r} h q => by
    obtain ⟨T, id, hT, ht, hg⟩ := h pins { s3 with heap := s3.heap.push { cls := .type "slice", data := .fields #[vl, vu, .none] } } σ H3 x v vl vu l u s3.heap.objs.size _ I4 r1 (Heap.IsSliceOf.new ..) pl pu q
    exact tail_any (ops := [.ref s3.heap.objs.size, v]) ht hT (thn hg fun w s' ⟨wv, H', I', rw, g, dn⟩ => ⟨wv, H', z, M3, I', rw, g13.trans g, dn, q3⟩) (by with_unfolding_all rfl)
  have lists : ∀ xs, items M3 d = some xs → (∀ zs, d ≠ .tup zs) → z = .lst (cutD xs l u) → wpAny (model C.X.prog C.X.w) C.X.A (subscriptTail e (.Slice lo hi none p2) v (.ref s3.heap.objs.size)) (EPD C pins σ H M Q) C.X.xe { s3 with heap := s3.heap.push { cls := .type "slice", data := .fields #[vl, vu, .none] } } := fun xs hx hn he => by
    subst he
    obtain ⟨q', vs, rfl, l', hl', hz, h⟩ := seq_v I3 sr3 dn3 hx
    rcases h with ⟨_, zs, h⟩ | ⟨h, _⟩
    · exact absurd h (hn zs)
    · exact fin sl_list ⟨q', vs, rfl, h, fun p hp => new_lst sr3 hp (l'.cut l u)⟩
  show wpAny (model C.X.prog C.X.w) C.X.A (subscriptTail e (.Slice lo hi none p2) v (.ref s3.heap.objs.size)) (EPD C pins σ H M Q) C.X.xe { s3 with heap := s3.heap.push { cls := .type "slice", data := .fields #[vl, vu, .none] } }
  by_cases ht : ∃ xs, d = .tup xs
  · obtain ⟨xs, rfl⟩ := ht
    cases (show some (D.tup (cutD xs l u)) = some z from ez)
    have dn0 := dn3
    simp only [Den] at dn3
    obtain ⟨q', vs, rfl, t', l'⟩ := dn3
    refine fin sl_tupA ⟨q', vs, rfl, t'.sq, fun hw => ⟨Go.refl sr3, ?_⟩, fun _ p hp => new_tup sr3 hp (l'.cut l u)⟩
    have e : cutD xs l u = xs := by
      rw [l'.length] at hw
      unfold cutD
      rw [hw.1, hw.2]
      simp
    rw [e]
    exact dn0
  · by_cases hs : ∃ zz, d = .str zz
    · obtain ⟨zz, rfl⟩ := hs
      simp only [part] at ez
      split at ez <;> cases ez
      rename_i hz
      simp only [Den] at dn3
      exact fin sl_str ⟨_, dn3, hz, Go.refl sr3, by simp only [Den]⟩
    · have e : part M3 d l u = (items M3 d).map fun xs => .lst (cutD xs l u) := by
        cases d <;> first | rfl | exact absurd ⟨_, rfl⟩ ht | exact absurd ⟨_, rfl⟩ hs
      rw [e] at ez
      cases q : items M3 d with
      | none => rw [q] at ez; cases ez
      | some xs =>
        rw [q] at ez
        cases ez
        exact lists xs q (fun zs z => ht ⟨zs, z⟩) rfl⟩
end
end DL

/-! *, list methods, sorted, repr, sets of tuples sorted, over data. -/
namespace DL
open PySem PySem.Spec PyProof.Rows L2
theorem tuple_mul1 (l : Addr) (items : Array Value) (n : Nat) (dd : Option Addr) (sl : Array (Option Value)) (u : Tok) :
    Meets (Builtin.«tuple.__mul__» ⟨[.ref l, .int 1 u], []⟩) (fun _ R s => s.heap.get? l = some { cls := .type "tuple", dict := dd, data := .seq items n, slots := sl } ∧
      R (.ok (.ret (Value.ref l))) s) :=
  .of_wp fun prog w A R s h => by
    obtain ⟨hp, g, d, tk, os⟩ := s
    obtain ⟨hl, h⟩ := h
    have f1 := AutoSeq1.idx_int
    have c1 : (items.isEmpty || (1 : Int) == 1) = true := by simp
    wp_walk using wpAny_loadPart' hl
    exact ⟨_, rfl, h⟩
/-- a tuple once: itself -/
def rRepT1 (K : PySem.W.Frag) : R2 := fun x y H Q => ∃ l xs, x = .ref l ∧ y = .int 1 ∧ SqT K H l xs ∧ Q (.ref l) H
theorem op_repT1 {X : Cx} : OpR X (binaryOp .Mult) (rRepT1 X.K) := by
  intro pins s σ H x y v u Q I rx ry h
  obtain ⟨l, xs, rfl, rfl, hT, q⟩ := h
  cases rx
  obtain ⟨t, rfl⟩ := ry
  obtain ⟨its, r, ⟨⟨cls, dd, data, sl⟩, ho, hc, n, hd⟩, hs⟩ := I.tuple hT
  simp only at hc hd
  subst hc hd
  refine wpAny_binaryOp_repeat_ref (T := "tuple") (U := "int") (by decide) ⟨_, ho, rfl⟩ (fun s' => typeIs_int s' 1 t) noFill_tuple_mul F.fills_int_mul F.slot_int_rmul repeat_tuple F.slot_int_index.lookup
    (call_meets F.slot_int_rmul (typeIs_int s 1 t) F.entry_int_rmul (F.args_int_rmul_2 _ _) (int_rmul_tuple 1 t l its.toArray n dd sl)
      ⟨ho, rfl, ⟨_, ho, rfl⟩, call_meets F.slot_tuple_mul ⟨_, ho, rfl⟩ F.entry_tuple_mul (F.args_tuple_mul_2 _ _) (tuple_mul1 l its.toArray n dd sl t) ⟨ho, ?_⟩⟩)
  exact ⟨.ref l, _, I, rfl, q⟩
section
variable {C : DC} {e a b o : Expr} {es : List Expr} {x : Str} {p p2 q2 pos apos cpos : Pos} {ta tb te to : DE} {t : DA} {id T : String} {name : Str}

/-! ### * -/
def fMul : O2 := fun x y M => match x, y with
  | .int i, .int j => if (small i || small j) = true then some (.int (i * j)) else none
  | .tup xs, .int k => if k = 1 then some (.tup xs) else if xs ≠ [] ∧ 2 ≤ k ∧ k ≤ 1000 ∧ xs.length ≤ 1000 then some (.tup (List.replicate k.toNat xs).flatten) else none
  | d, .int k => (match deref M d with
    | .lst xs => if -1000000 ≤ k ∧ k ≤ 1000000 ∧ xs.length * k.toNat ≤ sizeLine then some (.lst (List.replicate k.toNat xs).flatten) else none
    | _ => none)
  | _, _ => none
theorem DenL.rep {K : PySem.W.Frag} {H : Hp} {M : Mp} {xs : List D} {vs : List V} (l : DenL K H M xs vs) : ∀ n, DenL K H M (List.replicate n xs).flatten (List.replicate n vs).flatten
  | 0 => DenL.nil
  | n + 1 => by
    rw [List.replicate_succ, List.replicate_succ, List.flatten_cons, List.flatten_cons]
    exact l.append (DenL.rep l n)
theorem dop_mul2 : DOp C (binaryOp .Mult) fMul := fun pins s σ H M x y u v d e z I sr r1 r2 d1 d2 ez => by
  have fin : ∀ {F : Value → Value → Sem Value} {r : R2} (_ : OpR C.X F r), r x y H (fun w H' => Go C H M H' M ∧ Den C.X.K H' M z w) → wpAny (model C.X.prog C.X.w) C.X.A (F u v) (EPD C pins σ H M fun z' M' => z' = z ∧ M' = M) C.X.xe s := fun {F r} h q =>
    thn (h pins s σ H x y u v _ I r1 r2 q) fun w s' ⟨wv, H', I', rw, g, dn⟩ => ⟨wv, H', z, M, I', rw, g, dn, rfl, rfl⟩
  unfold fMul at ez
  split at ez
  · split at ez <;> cases ez
    rename_i i j h
    exact dop_mul pins s σ H M x y u v _ _ _ I sr r1 r2 d1 d2 (by simp only [fMulI, fI]; rw [if_pos h])
  · rename_i xs k
    split at ez
    · rename_i h1
      cases ez
      subst h1
      have d1' := d1
      simp only [Den] at d1 d2
      obtain ⟨q, vs, rfl, t1, l⟩ := d1
      subst d2
      exact fin op_repT1 ⟨q, vs, rfl, rfl, t1.sq, Go.refl sr, d1'⟩
    split at ez <;> cases ez
    rename_i h
    simp only [Den] at d1 d2
    obtain ⟨q, vs, rfl, t1, l⟩ := d1
    subst d2
    have hl := l.length
    exact fin op_repT ⟨q, k, vs, rfl, rfl, t1.sq, fun z => h.1 (by subst z; exact List.length_eq_zero_iff.mp hl.symm), h.2.1, h.2.2.1, by omega, fun p hp => new_tup sr hp (l.rep _)⟩
  · split at ez
    · rename_i xs hx
      split at ez <;> cases ez
      rename_i k _ _ _ h
      simp only [Den] at d2
      subst d2
      obtain ⟨q, vs, rfl, hq, l⟩ := deref_lst sr.abs hx d1
      have hl := l.length
      exact fin op_rep ⟨q, k, vs, rfl, rfl, hq, by omega, by omega, by rw [hl]; exact h.2.2, fun p hp => new_lst sr hp (l.rep _)⟩
    · cases ez
  · cases ez

/-! ### methods of built-in types -/
abbrev DM := D → List D → Mp → DK → Prop
def MonoM (r : DM) : Prop := ∀ (d : D) (ds : List D) (M : Mp) (Q Q' : DK), (∀ d M', Q d M' → Q' d M') → r d ds M Q → r d ds M Q'
def dMeth (ty : Mp → D → Prop) (r : DM) (to : DE) (t : DA) : DE := fun τ M Q E => to τ M (fun x M1 => ty M1 x ∧ t τ M1 (fun ds M2 => r x ds M2 Q) E) E
theorem mono_meth {ty : Mp → D → Prop} {r : DM} (m : MonoE to) (n : MonoA t) (k : MonoM r) : MonoE (dMeth ty r to t) := fun τ M Q Q' E E' h he q =>
  m τ M _ _ _ _ (fun x M1 z => ⟨z.1, n τ M1 _ _ _ _ (fun ds M2 => k x ds M2 _ _ h) he z.2⟩) he q
/-- what a rule of the hand layer for a method gives over data -/
def MtD (C : DC) (ty : Mp → D → Prop) (r : DM) (T : String) (rH : V → List V → Hp → VK → Prop) : Prop :=
  (∀ H M d v, SR C H M → Den C.X.K H M d v → ty M d → tyV C.X.K T v H) ∧
  ∀ H M d v ds vs (Q : DK), SR C H M → Den C.X.K H M d v → DenL C.X.K H M ds vs → r d ds M Q → rH v vs H fun w H' => ∃ z M', Go C H M H' M' ∧ Den C.X.K H' M' z w ∧ Q z M'
theorem den_det {K : PySem.W.Frag} {H H' : Hp} {M M' : Mp} : True := trivial
theorem de_meth {ty : Mp → D → Prop} {r : DM} {rH : V → List V → Hp → VK → Prop} (pa : PlainAttrs T) (slot : Slot T name id) (hty : typeOf (.builtin id) = pure (.type "method_descriptor")) (hm : MtR C.X id rH) (conv : MtD C ty r T rH) (mr : MonoM r) (ho : DPE C o to) (ha : DPA C (e :: es) t)
    (hbase : attributeBase o name C.X.env (eval o C.X.env) = eval o C.X.env := by rfl)
    (hfew : ((backTo cpos (starEach (e :: es) C.X.env)).all (fun x => !x.1) && (backToKw cpos (keywordEach [] C.X.env)).all (fun x => x.1.isSome)
      && decide ((e :: es).length + ([] : List Keyword).length + (if ([] : List Keyword).isEmpty then 0 else 1) < 30)) = true := by rfl)
    (hline : (apos.endLine == cpos.line) = true := by rfl) (hs : starEach (e :: es) C.X.env = (false, eval e C.X.env) :: starEach es C.X.env := by rfl) (hplain : (backTo cpos (starEach es C.X.env)).any (·.1) = false := by rfl) :
    DPE C (.Call (.Attribute o name apos) (e :: es) [] cpos) (dMeth ty r to t) := ⟨mono_meth ho.mono ha.mono mr, fun pins s σ H τ M Q I er sr q => by
  refine wpAny_Call_method_late hbase hfew hline rfl (thn (ho.go pins s σ H τ M _ I er sr q) fun v s1 ⟨x, H1, d, M1, I1, r1, g1, dn1, hty1, q1⟩ => ?_)
  obtain ⟨h1, h2⟩ := tyV_is I1 r1 (conv.1 H1 M1 d x (sr.go g1) dn1 hty1)
  refine ⟨T, id, pa, slot, hty, h1, h2, ?_⟩
  have hA := ha.go cpos pins s1 σ H1 τ M1 _ I1 (er.keep g1.keep) (sr.go g1) q1
  rw [hs] at hA ⊢
  refine Calls.callWith_builtin (by show (false || (backTo cpos (starEach es C.X.env)).any (·.1)) = false; rw [hplain] <;> rfl) (Calls.evalArgs_plain ?_)
  refine thn hA fun us s2 ⟨vs, H2, ds, M2, I2, r2, g2, l2, q2⟩ => ?_
  exact thn (hm pins s2 σ H2 x vs v us _ I2 r1 r2 (conv.2 H2 M2 d x ds vs Q ((sr.go g1).go g2) (Den.keep g2.keep d dn1) l2 q2)) fun w s3 ⟨wv, H3, I3, rw, z, M3, g3, dn3, q3⟩ => ⟨wv, H3, z, M3, I3, rw, (g1.trans g2).trans g3, dn3, q3⟩⟩
theorem de_meth0 {ty : Mp → D → Prop} {r : DM} {rH : V → List V → Hp → VK → Prop} (pa : PlainAttrs T) (slot : Slot T name id) (hty : typeOf (.builtin id) = pure (.type "method_descriptor")) (hm : MtR C.X id rH) (conv : MtD C ty r T rH) (mr : MonoM r) (ho : DPE C o to)
    (hbase : attributeBase o name C.X.env (eval o C.X.env) = eval o C.X.env := by rfl) (hline : (apos.endLine == cpos.line) = true := by rfl) :
    DPE C (.Call (.Attribute o name apos) [] [] cpos) (dMeth ty r to dNil) := ⟨mono_meth ho.mono mono_nil mr, fun pins s σ H τ M Q I er sr q => by
  refine wpAny_Call_method0_late hbase hline (thn (ho.go pins s σ H τ M _ I er sr q) fun v s1 ⟨x, H1, d, M1, I1, r1, g1, dn1, hty1, q1⟩ => ?_)
  obtain ⟨h1, h2⟩ := tyV_is I1 r1 (conv.1 H1 M1 d x (sr.go g1) dn1 hty1)
  refine ⟨T, id, pa, slot, hty, h1, h2, Calls.callWith_builtin rfl (PySem.evalArgs_none ?_)⟩
  exact thn (hm pins s1 σ H1 x [] v [] _ I1 r1 .nil (conv.2 H1 M1 d x [] [] Q (sr.go g1) dn1 DenL.nil q1)) fun w s3 ⟨wv, H3, I3, rw, z, M3, g3, dn3, q3⟩ => ⟨wv, H3, z, M3, I3, rw, g1.trans g3, dn3, q3⟩⟩
/-- a list that may be changed -/
def tyLst (M : Mp) (d : D) : Prop := ∃ a xs, d = .ref a ∧ M a = some (.lst xs)
theorem tyLst_v {H : Hp} {M : Mp} {d : D} {v : V} (sr : SR C H M) (dn : Den C.X.K H M d v) (h : tyLst M d) : tyV C.X.K "list" v H := by
  obtain ⟨q, xs, rfl, hM⟩ := h
  simp only [Den] at dn
  subst dn
  obtain ⟨vs, hH, _⟩ := sr.abs q _ hM
  exact Or.inl ⟨rfl, vs, .inl (.inl hH)⟩
def rApp : DM := fun d ds M Q => match d, ds with
  | .ref a, [y] => (match M a with
    | some (.lst xs) => xs.length < sizeLine ∧ Q .non (put M a (.lst (xs ++ [y])))
    | _ => False)
  | _, _ => False
theorem rApp_some {d : D} {ds : List D} {M : Mp} {Q : DK} (h : rApp d ds M Q) : ∃ a y xs, d = .ref a ∧ ds = [y] ∧ M a = some (.lst xs) ∧ xs.length < sizeLine ∧ Q .non (put M a (.lst (xs ++ [y]))) := by
  unfold rApp at h
  split at h
  · split at h
    · rename_i hM; exact ⟨_, _, _, rfl, rfl, hM, h.1, h.2⟩
    · exact h.elim
  · exact h.elim
theorem mono_app : MonoM rApp := fun d ds M Q Q' h q => by
  obtain ⟨a, y, xs, rfl, rfl, hM, hz, q⟩ := rApp_some q
  simp only [rApp, hM]
  exact ⟨hz, h _ _ q⟩
theorem MtM.r {X : Cx} {id : String} {r : V → List V → Hp → VK → Prop} (h : MtM X id r) : MtR X id r := h
theorem mtd_app : MtD C tyLst rApp "list" rAppend := ⟨fun H M d v sr dn h => tyLst_v sr dn h, fun H M d v ds vs Q sr dn l h => by
  obtain ⟨q, y, xs, rfl, rfl, hM, hz, h⟩ := rApp_some h
  simp only [Den] at dn
  subst dn
  obtain ⟨w, rfl, dw⟩ := l.one
  obtain ⟨us, hH, lu⟩ := sr.abs q _ hM
  exact ⟨q, us, w, rfl, rfl, hH, by rw [lu.length]; exact hz, .non, _, write_lst sr hM (lu.append (.cons dw .nil)), by simp only [Den], h⟩⟩
/-- l.append(e) -/
theorem de_append (ho : DPE C o to) (ha : DPA C [e] t) (hbase : attributeBase o "append" C.X.env (eval o C.X.env) = eval o C.X.env := by rfl)
    (hfew : ((backTo cpos (starEach [e] C.X.env)).all (fun x => !x.1) && (backToKw cpos (keywordEach [] C.X.env)).all (fun x => x.1.isSome)
      && decide ([e].length + ([] : List Keyword).length + (if ([] : List Keyword).isEmpty then 0 else 1) < 30)) = true := by rfl)
    (hline : (apos.endLine == cpos.line) = true := by rfl) (hs : starEach [e] C.X.env = (false, eval e C.X.env) :: starEach [] C.X.env := by rfl) (hplain : (backTo cpos (starEach [] C.X.env)).any (·.1) = false := by rfl) :
    DPE C (.Call (.Attribute o "append" apos) [e] [] cpos) (dMeth tyLst rApp to t) := de_meth PySem.F.plainAttrs_list PySem.F.slot_list_append PySem.F.type_list_append (MtM.r mt_append) mtd_app mono_app ho ha hbase hfew hline hs hplain

/-! ### sorted -/
def dle : D → D → Bool := PySem.W.dataLe false pyT
def sortB (xs : List D) : Bool := (xs.all fun d => match d with
  | .tup (_ :: _) => true
  | _ => false) || xs.all fun d => match d with
  | .tup _ => false
  | .non => false
  | _ => true
def alikeB (xs : List D) : Bool := xs.all fun a => xs.all fun b => PySem.W.alike (pyT a) (pyT b)
def gSorted : OL := fun ds M => match ds with
  | [x] => (itemsL M x).bind fun xs => if (xs.all (shp 60) && alikeB xs && sortB xs) = true then some (.lst (xs.mergeSort dle)) else none
  | _ => none
theorem each_of {R : Value → D → Prop} : ∀ {ds : List D} {us : List Value}, us.length = ds.length → (∀ (i : Nat) (d : D) (u : Value), ds[i]? = some d → us[i]? = some u → R u d) → PySem.W.EachIs R us ds
  | [], [], _, _ => .nil
  | d :: ds, u :: us, hl, h => .cons (h 0 d u rfl rfl) (each_of (by simpa using hl) fun i d' u' h1 h2 => h (i + 1) d' u' (by simpa using h1) (by simpa using h2))
  | [], _ :: _, hl, _ => by simp at hl
  | _ :: _, [], hl, _ => by simp at hl
theorem each_out {K : PySem.W.Frag} {H : Hp} {M : Mp} : ∀ {ds : List D} {us : List Value}, PySem.W.EachIs (fun u d => ∃ v, RelV v u ∧ Den K H M d v) us ds → ∃ vs, Vals vs us ∧ DenL K H M ds vs
  | [], _, .nil => ⟨[], .nil, DenL.nil⟩
  | d :: ds, _, .cons ⟨v, r, dn⟩ h => by
    obtain ⟨vs, rv, l⟩ := each_out h
    exact ⟨v :: vs, .cons r rv, DenL.cons dn l⟩
theorem cl_sorted : DCl C (.builtin "sorted") gSorted := fun pins s σ H M xs us ds z I sr rv l ez => by
  match ds, l, ez with
  | [], _, ez => exact nomatch ez
  | _ :: _ :: _, _, ez => exact nomatch ez
  | [d], l, ez =>
    cases q : itemsL M d with
    | none => rw [show gSorted [d] M = (itemsL M d).bind _ from rfl, q] at ez; cases ez
    | some ys =>
      rw [show gSorted [d] M = (itemsL M d).bind _ from rfl, q, Option.bind_some] at ez
      split at ez <;> cases ez
      rename_i hB
      simp only [Bool.and_eq_true] at hB
      obtain ⟨⟨hsh, hal⟩, hso⟩ := hB
      obtain ⟨e1, e2⟩ := itemsL_of q
      obtain ⟨v, rfl, dn⟩ := l.one
      obtain ⟨q', vs, rfl, l, hl, hz, h⟩ := seq_v I sr dn e1
      rcases h with ⟨_, zs, h⟩ | ⟨h, _⟩
      · exact absurd h (e2 zs)
      · obtain ⟨its, r, pl, _⟩ := I.list h
        cases rv with
        | cons ru rn =>
          cases rn
          cases (show _ = Value.ref q' from ru)
          have hlen : its.length = ys.length := by rw [← r.length, hl]
          have sh := List.all_eq_true.mp hsh
          have both : ∀ (i : Nat) (d : D) (u : Value), ys[i]? = some d → its[i]? = some u → (∃ v, RelV v u ∧ Den C.X.K H M d v) := fun i d u h1 h2 => by
            obtain ⟨v, hv, dv⟩ := l.get h1
            obtain ⟨u', hu', ru⟩ := r.get hv
            rw [h2] at hu'; cases hu'
            exact ⟨v, ru, dv⟩
          refine PySem.W.sorted_data (enc := pyT) (R := fun u d => ∃ v, RelV v u ∧ Den C.X.K H M d v) (bs := ys) (vs := its) pl.isList (each_of hlen both) (each_of hlen fun i d u h1 h2 => ?_) ?_ ?_ hz (fun b hb => ?_) fun out ho hE => ?_
          · obtain ⟨v, ru, dv⟩ := both i d u h1 h2
            exact Dp.reads I (pyT d) v u (den_dp d ⟨60, sh d (List.mem_of_getElem? h1)⟩ dv) ru
          · intro d1 h1 d2 h2
            obtain ⟨a1, m1, rfl⟩ := List.mem_map.mp h1
            obtain ⟨a2, m2, rfl⟩ := List.mem_map.mp h2
            exact List.all_eq_true.mp (List.all_eq_true.mp hal a1 m1) a2 m2
          · unfold sortB at hso
            rcases Bool.or_eq_true_iff.mp hso with h' | h'
            · refine .inl fun d hd => ?_
              obtain ⟨a1, m1, rfl⟩ := List.mem_map.mp hd
              have := List.all_eq_true.mp h' a1 m1
              split at this
              · simp only [pyT, pyTs]; exact ⟨_, _, rfl⟩
              · cases this
            · refine .inr fun d hd => ?_
              obtain ⟨a1, m1, rfl⟩ := List.mem_map.mp hd
              have := List.all_eq_true.mp h' a1 m1
              have hs := sh a1 m1
              cases a1 <;> simp only [Bool.false_eq_true] at this <;> simp [pyT, shp] at hs ⊢
          · have h1 := (shp_shaped (sh b hb)).2
            have h2 := C.un
            omega
          · obtain ⟨ws, rw, lw⟩ := each_out hE
            have hws : ws.length ≤ sizeLine := by rw [lw.length, List.length_mergeSort]; exact hz
            obtain ⟨c, hc⟩ := sortedAll_at s.heap its out.toArray
            have hp : H (s.heap.objs.size + 1) = none := I.hok.fresh (Nat.le_succ _)
            obtain ⟨g, dz⟩ := new_lst (xs := ws) sr hp lw
            exact ⟨.ref (s.heap.objs.size + 1), _, .lst (ys.mergeSort dle), M, I.laid (a := s.heap.objs.size + 1) (o := .lst ws) (t' := s.toks) (fun b u e => sortedAll_old e) (Nat.le_succ _) ⟨hws, out, c, rw, hc⟩, rfl, g, dz, rfl, rfl⟩

/-! ### repr -/
def rprOk (p : PyData) : Bool := p.showable && decide (p.shown.length ≤ sizeLine)
def gRepr : OL := fun ds M => match ds with
  | [x] => (match deref M x with
    | .tup xs => if (shp 64 (.tup xs) && rprOk (pyT (.tup xs))) = true then some (.str (pyT (.tup xs)).shown) else none
    | .lst xs => if (shp 64 (.lst xs) && rprOk (pyT (.lst xs))) = true then some (.str (pyT (.lst xs)).shown) else none
    | .bl b => some (.str (if b then "True" else "False"))
    | .non => some (.str "None")
    | .int i => if decide (i.natAbs.log2 < 1920) = true then some (.str (toString i : String)) else none
    | .str x => if decide ((reprText x).length ≤ sizeLine) = true then some (.str (reprText x)) else none
    | _ => none)
  | _ => none
theorem noDict_of : ∀ {n : Nat} {d : D}, shp n d = true → (pyT d).hasDict = false := fun {n d} h => PyData.hasDict_of_canLay _ (shp_shaped h).1
theorem cl_repr (hgb : C.gb = true) : DCl C (.builtin "repr") gRepr := fun pins s σ H M xs us ds z I sr rv l ez => by
  match ds, l, ez with
  | [], _, ez => exact nomatch ez
  | _ :: _ :: _, _, ez => exact nomatch ez
  | [d], l, ez =>
    obtain ⟨v, rfl, dn⟩ := l.one
    have key : ∀ d', deref M d = d' → shp 64 d' = true → rprOk (pyT d') = true → (∃ q, v = .ref q) → z = .str (pyT d').shown → wpAny (model C.X.prog C.X.w) C.X.A (call (.builtin "repr") us) (EPD C pins σ H M fun z' M' => z' = z ∧ M' = M) C.X.xe s := fun d' hd sh ro ⟨q, hq⟩ hz => by
      subst hd; subst hz
      have dp := deref_dp sr.abs sh dn
      subst hq
      cases rv with
      | cons ru rn =>
        cases rn
        cases (show _ = Value.ref q from ru)
        obtain ⟨as, rd⟩ := Dp.reads I _ _ _ dp ru
        simp only [rprOk, Bool.and_eq_true, decide_eq_true_eq] at ro
        have h1 := (shp_shaped sh).2
        have h2 := C.un64
        refine repr_of_reads' rd ro.1 (PyData.noDict_hsm (noDict_of sh)) (C.gd hgb) (by omega) (fun _ _ e => e) (fun h' u tk hk => ?_) ro.2
        exact ⟨.str _, H, .str _, M, I.kept (t' := tk) hk, ⟨_, rfl⟩, Go.refl sr, by simp only [Den], rfl, rfl⟩
    have isref : ∀ d', deref M d = d' → (∃ xs, d' = .tup xs ∨ d' = .lst xs) → ∃ q, v = .ref q := fun d' hd hx => by
      obtain ⟨xs, hx⟩ := hx
      cases d <;> simp only [deref] at hd <;> simp only [Den] at dn
      case tup => obtain ⟨q, _, e, _⟩ := dn; exact ⟨q, e⟩
      case lst => obtain ⟨q, _, e, _⟩ := dn; exact ⟨q, e⟩
      case ref q => exact ⟨q, dn⟩
      all_goals (subst hd; rcases hx with hx | hx <;> cases hx)
    simp only [gRepr] at ez
    split at ez
    · split at ez <;> cases ez
      rename_i xs hd h
      simp only [Bool.and_eq_true] at h
      exact key _ hd h.1 h.2 (isref _ hd ⟨_, .inl rfl⟩) rfl
    · split at ez <;> cases ez
      rename_i xs hd h
      simp only [Bool.and_eq_true] at h
      exact key _ hd h.1 h.2 (isref _ hd ⟨_, .inr rfl⟩) rfl
    · rename_i b hd
      cases ez
      have e : d = .bl b := by
        cases d <;> simp only [deref, reduceCtorEq] at hd
        · exact hd
        · split at hd <;> cases hd
      subst e
      simp only [Den] at dn
      subst dn
      cases rv with
      | cons ru rn =>
        cases rn
        cases (show _ = Value.bool b from ru)
        exact P.repr_of_bool ⟨.str _, H, .str _, M, I.tok _, ⟨_, rfl⟩, Go.refl sr, by simp only [Den], rfl, rfl⟩
    · rename_i hd
      cases ez
      have e : d = .non := by
        cases d <;> simp only [deref, reduceCtorEq] at hd
        · rfl
        · split at hd <;> cases hd
      subst e
      simp only [Den] at dn
      subst dn
      cases rv with
      | cons ru rn =>
        cases rn
        cases (show _ = Value.none from ru)
        exact P.repr_of_none ⟨.str _, H, .str _, M, I.tok _, ⟨_, rfl⟩, Go.refl sr, by simp only [Den], rfl, rfl⟩
    · rename_i i hd
      split at ez <;> cases ez
      rename_i hi
      have e : d = .int i := by
        cases d <;> simp only [deref, reduceCtorEq] at hd
        · exact hd
        · split at hd <;> cases hd
      subst e
      simp only [Den] at dn
      subst dn
      cases rv with
      | cons ru rn =>
        cases rn
        obtain ⟨t, rfl⟩ : ∃ t, _ = Value.int i t := ru
        exact P.repr_of_int (of_decide_eq_true hi) ⟨.str _, H, .str _, M, I.tok _, ⟨_, rfl⟩, Go.refl sr, by simp only [Den], rfl, rfl⟩
    · rename_i x hd
      split at ez <;> cases ez
      rename_i hi
      have e : d = .str x := by
        cases d <;> simp only [deref, reduceCtorEq] at hd
        · exact hd
        · split at hd <;> cases hd
      subst e
      simp only [Den] at dn
      subst dn
      cases rv with
      | cons ru rn =>
        cases rn
        obtain ⟨t, rfl⟩ : ∃ t, _ = Value.str x t := ru
        exact P.repr_of_str ⟨.str _, H, .str _, M, I.tok _, ⟨_, rfl⟩, Go.refl sr, by simp only [Den], rfl, rfl⟩ (of_decide_eq_true hi)
    · cases ez
end
end DL

/-! sorted(set(..)) of tuples of ints. -/
namespace DL
open PySem PySem.Spec PyProof.Rows L2
def tupI (k : List Int) : D := .tup (k.map D.int)
def dSortedSet (B : Int) (te : DE) : DE := fun τ M Q E => te τ M (fun d M1 => ok1 (itemsL M1 d) fun xs => ∃ ks : List (List Int), xs = ks.map tupI ∧ ks.length < 64 ∧ (∃ n, 1 ≤ n ∧ ∀ k ∈ ks, k.length = n ∧ TS.Bd B k) ∧
  ∀ L : List (List Int), L.Nodup → L.Pairwise (fun q r => TS.code B q ≤ TS.code B r) → (∀ k, k ∈ L ↔ k ∈ ks) → Q (.lst (L.map tupI)) M1) E
theorem mono_sortedSet {B : Int} {te : DE} (m : MonoE te) : MonoE (dSortedSet B te) := fun τ M Q Q' E E' h he q =>
  m τ M _ _ _ _ (fun d M1 => ok1_mono fun xs ⟨ks, a, b, c, k⟩ => ⟨ks, a, b, c, fun L h1 h2 h3 => h _ _ (k L h1 h2 h3)⟩) he q
section
variable {C : DC} {e : Expr} {p p2 q2 pos pos2 : Pos} {te : DE}
theorem den_ints {K : PySem.W.Frag} {H : Hp} {M : Mp} : ∀ {k : List Int} {vs : List V}, DenL K H M (k.map D.int) vs → vs = k.map V.int
  | [], _, h => by simpa only [List.map_nil, DenL] using h
  | n :: k, _, h => by
    simp only [List.map_cons, DenL] at h
    obtain ⟨v, r, rfl, dn, l⟩ := h
    simp only [Den] at dn
    rw [den_ints l, dn]
    rfl
theorem ints_den {K : PySem.W.Frag} {H : Hp} {M : Mp} : ∀ (k : List Int), DenL K H M (k.map D.int) (k.map V.int)
  | [] => DenL.nil
  | n :: k => DenL.cons (by simp only [Den]) (ints_den k)
/-- where the tuples stand -/
theorem den_tups {K : PySem.W.Frag} {H : Hp} {M : Mp} : ∀ {ks : List (List Int)} {vs : List V}, DenL K H M (ks.map tupI) vs → ∃ ps : List (Addr × List Int), ps.map (·.2) = ks ∧ vs = ps.map (fun q => V.ref q.1) ∧ ∀ q ∈ ps, TpAt K H M q.1 (q.2.map V.int)
  | [], _, h => ⟨[], rfl, by simpa only [List.map_nil, DenL] using h, fun _ z => nomatch z⟩
  | k :: ks, _, h => by
    simp only [List.map_cons, DenL] at h
    obtain ⟨v, r, rfl, dn, l⟩ := h
    obtain ⟨ps, e1, e2, h3⟩ := den_tups l
    simp only [tupI, Den] at dn
    obtain ⟨a, vs, rfl, t, l'⟩ := dn
    have := den_ints l'
    subst this
    refine ⟨(a, k) :: ps, by simp [e1], by simp [e2], fun q hq => ?_⟩
    rcases List.mem_cons.mp hq with rfl | hq
    · exact t
    · exact h3 q hq
theorem tups_den {K : PySem.W.Frag} {H : Hp} {M : Mp} : ∀ (ps : List (Addr × List Int)), (∀ q ∈ ps, TpAt K H M q.1 (q.2.map V.int)) → DenL K H M (ps.map fun q => tupI q.2) (ps.map fun q => V.ref q.1)
  | [], _ => DenL.nil
  | q :: ps, h => DenL.cons (by simp only [tupI, Den]; exact ⟨q.1, _, rfl, h q List.mem_cons_self, ints_den q.2⟩) (tups_den ps fun r hr => h r (List.mem_cons_of_mem _ hr))
theorem de_sortedSet (B : Int) (hc : C.X.calm = true) (hg : Gl C.X "sorted") (hm : C.X.mg "sorted" = none) (hg2 : Gl C.X "set") (hm2 : C.X.mg "set" = none) (he : DPE C e te)
    (hs2 : starEach [e] C.X.env = (false, eval e C.X.env) :: starEach [] C.X.env := by rfl) (hpl2 : (backTo pos2 (starEach [] C.X.env)).any (·.1) = false := by rfl)
    (hs : starEach [.Call (.Name "set" p2) [e] [] pos2] C.X.env = (false, eval (.Call (.Name "set" p2) [e] [] pos2) C.X.env) :: starEach [] C.X.env := by rfl) (hpl : (backTo pos (starEach [] C.X.env)).any (·.1) = false := by rfl) :
    DPE C (.Call (.Name "sorted" p) [.Call (.Name "set" p2) [e] [] pos2] [] pos) (dSortedSet B te) := by
  refine .of (mono_sortedSet he.mono) (pe_callB (cr_sortedT hc) hg hm (by decide +kernel) (pa_cons (pe_callTy (cr_setOfT hc (by have := C.un64; omega)) hg2 hm2 (by decide +kernel) (pa_cons he.pe pa_nil hs2) (by decide) (by decide) hs2 hpl2) pa_nil hs) (by decide) (by decide) hs hpl) fun σ H Q ⟨τ, M, er, sr, q⟩ => ?_
  refine ⟨τ, M, er, sr, he.mono _ _ _ _ _ _ (fun d M1 z v H1 g1 dn => ?_) (fun _ _ _ z => z) q⟩
  obtain ⟨xs, ex, ks, rfl, h64, ⟨n, hn, hB⟩, k⟩ := ok1_ex z
  obtain ⟨e1, e2⟩ := itemsL_of ex
  obtain ⟨l, vs, rfl, dl, hs⟩ := seq_of (sr.go g1).abs dn e1
  obtain ⟨ps, rfl, rfl, hps⟩ := den_tups dl
  rcases hs with ⟨⟨zs, z⟩, _⟩ | ⟨_, hl, _⟩
  · exact absurd z (e2 zs)
  · refine ⟨l, ps, rfl, hl, fun q hq => (hps q hq).sq, by simpa using h64, fun a L hna hL1 hL2 => ?_⟩
    have sr1 := sr.go g1
    have g2 : Go C H1 M1 (upd H1 a (SetTO C.X.prog C.X.w a L)) M1 := Go.new sr1 hna fun ps z => by unfold SetTO at z; cases z
    refine ⟨a, L, n, B, rfl, upd_same, fun q hq => ((hps q (hL1 q hq)).keep g2.keep).sq, hn, fun q hq => hB q.2 (List.mem_map.mpr ⟨q, hL1 q hq, rfl⟩), fun L' p2 pm nd hf pw hnp => ?_⟩
    have sr2 := sr1.go g2
    have mem : ∀ q ∈ L', q ∈ ps := fun q hq => hL1 q (pm.mem_iff.mp hq)
    have dd := tups_den (K := C.X.K) (H := upd H1 a (SetTO C.X.prog C.X.w a L)) (M := M1) L' fun q hq => (hps q (mem q hq)).keep g2.keep
    obtain ⟨g3, dz⟩ := new_lst sr2 hnp dd
    have eM : (L'.map fun q => tupI q.2) = (L'.map (·.2)).map tupI := by rw [List.map_map]; rfl
    rw [eM] at dz
    refine k (L'.map (·.2)) nd (List.pairwise_map.mpr pw) (fun kk => ⟨fun h => ?_, fun h => ?_⟩) _ _ ((g1.trans g2).trans g3) dz
    · obtain ⟨q, hq, rfl⟩ := List.mem_map.mp h
      exact List.mem_map.mpr ⟨q, mem q hq, rfl⟩
    · obtain ⟨q, hq, rfl⟩ := List.mem_map.mp h
      obtain ⟨q', hq', e⟩ := List.mem_map.mp (hL2 q hq)
      exact List.mem_map.mpr ⟨q', pm.mem_iff.mpr hq', e⟩
end
end DL

/-! The end of a law row, over data. -/
namespace DL
open PySem PySem.Spec PyProof.Rows L2
/-! ### defs by name -/
/-- a def that stands at the module's name x -/
def DefAt (K : PySem.W.Frag) (mg : Str → Option Value) (x : Str) (st : Stmt) : Prop := ∃ f fd, Fun K x x st f fd ∧ mg x = some (.ref f)
structure FnX (P : Program) (w : World) (K : PySem.W.Frag) (mg : Str → Option Value) (base : Heap) (T : List (Addr × Str)) (gb : Bool) (k : Nat) (x : Str) (ps : List Str) (sp : DSp) : Prop where
  ex : ∃ f fd, FnG P w K mg base T gb k f fd ps sp ∧ mg x = some (.ref f) ∧ PySem.W.keepIn K (.ref f) = true ∧ Binds K fd ps []
/-- how a def's arguments bind -/
def BindN (x : Str) (st : Stmt) (ps : List Str) : Prop := ∀ (kV doc pm : Value) (an : Option Addr) (cdv ct : Value) (us : List Value), us.length = ps.length → bindArgs (PySem.W.fnOf x x (defArgs st) (defBody st) (defScope st) .none kV doc pm an cdv ct) ⟨us, []⟩ = pure (ps.zip us)
section
variable {P : Program} {w : World} {K : PySem.W.Frag} {mg : Str → Option Value} {base : Heap} {T : List (Addr × Str)}
theorem fnx_of {gb : Bool} {x : Str} {st : Stmt} {N ps : List Str} {k : Nat} {sp : DSp} {t : DS} (A : DefAt K mg x st) (S : FnScope N ps (defScope st)) (hb : BindN x st ps) (len : ∀ ds M Q E, sp ds M Q E → ds.length = ps.length) (mono : MonoP sp)
    (hbody : ∀ (f : Addr) (cdv : Value) (A : Around) (outer : List Env) (s : Shared) (H : Hp) (M : Mp) (E : DX) (hr : Room k (A.deeper (envOfC x (defScope st) s.heap.objs.size f cdv))) (hg : gb = true → A.guards = some []),
      DPSs (ctxOf P w K mg base T gb k N x (defScope st) f cdv A outer s H M E hr hg S.nd) (defBody st) t)
    (hsp : ∀ (ds : List D) (M : Mp) (Q : DK) (E : DX), sp ds M Q E → t (endF Q E) (startD N ds) M) : FnX P w K mg base T gb (k + 1) x ps sp := by
  obtain ⟨f, fd, F, e⟩ := A
  exact ⟨f, fd, fng_of F S len mono (hbody f) hsp, e, F.kp, F.binds hb⟩
end
section
variable {C : DC} {e : Expr} {es : List Expr} {x : Str} {p pos : Pos} {ps : List Str} {sp : DSp} {k : Nat} {gb : Bool} {t : DA}
theorem de_callX (F : FnX C.X.prog C.X.w C.X.K C.X.mg C.X.base C.T gb k x ps sp) (hgb : gb = true → C.gb = true) (hk : k ≤ C.lv) (hc : C.X.calm = true) (hg : Gl C.X x) (ha : DPA C (e :: es) t) (hdb : (x == ("__debug__" : Str)) = false := by decide)
    (he : starEach (e :: es) C.X.env = (false, eval e C.X.env) :: starEach es C.X.env := by rfl) (hpl : (backTo pos (starEach es C.X.env)).any (·.1) = false := by rfl) : DPE C (.Call (.Name x p) (e :: es) [] pos) (dCall sp t) := by
  obtain ⟨f, fd, G, hm, hp, hb⟩ := F.ex
  exact de_call G hgb hk hc hg hm hp hb ha hdb he hpl
theorem de_callX0 (F : FnX C.X.prog C.X.w C.X.K C.X.mg C.X.base C.T gb k x ps sp) (hgb : gb = true → C.gb = true) (hk : k ≤ C.lv) (hc : C.X.calm = true) (hg : Gl C.X x) (hdb : (x == ("__debug__" : Str)) = false := by decide) : DPE C (.Call (.Name x p) [] [] pos) (dCall sp dNil) := by
  obtain ⟨f, fd, G, hm, hp, hb⟩ := F.ex
  exact de_call0 G hgb hk hc hg hm hp hb hdb
end
theorem FnX.tru {gb : Bool} {P : Program} {w : World} {K : PySem.W.Frag} {mg : Str → Option Value} {base : Heap} {T : List (Addr × Str)} {k : Nat} {x : Str} {ps : List Str} {sp : DSp} (F : FnX P w K mg base T gb k x ps sp) : FnX P w K mg base T true k x ps sp := by
  obtain ⟨f, fd, G, r⟩ := F.ex
  exact ⟨f, fd, ⟨G.len, G.mono, fun A outer s H M args us vs ds Q E hr hg => G.run A outer s H M args us vs ds Q E hr fun _ => hg rfl⟩, r⟩
theorem FnX.up {gb : Bool} {P : Program} {w : World} {K : PySem.W.Frag} {mg : Str → Option Value} {base : Heap} {T : List (Addr × Str)} {k k' : Nat} {x : Str} {ps : List Str} {sp : DSp} (F : FnX P w K mg base T gb k x ps sp) (h : Nat.ble k k' = true := by rfl) : FnX P w K mg base T gb k' x ps sp := by
  obtain ⟨f, fd, G, r⟩ := F.ex
  exact ⟨f, fd, ⟨G.len, G.mono, fun A outer s H M args us vs ds Q E hr => G.run A outer s H M args us vs ds Q E (hr.mono (Nat.le_of_ble_eq_true h))⟩, r⟩
def tb0 : Obj := { cls := .none, data := .fields #[] }
/-- what the caller knows of the heap at the law's call: script at a, tables cs -/
structure At0 (K : PySem.W.Frag) (mg mb : Str → Option Value) (cs : List (Addr × Addr)) (a : Addr) (vs : List Value) (h : Heap) : Prop where
  kin : K.In h
  g : h.Ns mainGlobals mg
  b : h.Ns builtinsNs mb
  bb : ∀ x : Str, x ≠ "__name__" → mb x = bootBuiltins x
  lim : h.NoLimit
  tb : ∀ p ∈ cs, h.get? p.2 = some tb0
  nk : ∀ p ∈ cs, K.lookup p.2 = none
  hd : ∀ p ∈ cs, PySem.W.CodeHd h p.1 p.2
  bm : ∃ (bm : Addr) (ob : Obj), mg "__builtins__" = some (.ref bm) ∧ bm ≠ builtinsNs ∧ h.get? bm = some ob ∧ ob.cls = .type "module" ∧ ob.dict = some builtinsNs ∧ ob.data = .plain
  sc : h.get? a = some { cls := .type "list", data := .seq vs.toArray }
/-- the abstract heap at the law's call -/
structure Trk (cs : List (Addr × Addr)) (a : Addr) (H : Hp) : Prop where
  tbl : ∀ p ∈ cs, H p.2 = some (.tbl #[])
  only : ∀ b, H b = none ∨ b ∈ cs.map (·.2) ∨ ∃ o xs, H b = some (.frz o (.lst xs))
  who : ∀ b, H b ≠ none → b = a ∨ b ∈ cs.map (·.2)
section
variable {P : Program} {w : World} {K : PySem.W.Frag} {mg mb : Str → Option Value} {cs : List (Addr × Addr)} {a : Addr} {vs : List Value} {s₁ : Shared} {H : Hp}
theorem At0.tab_of (z : At0 K mg mb cs a vs s₁.heap) {b : Addr} (hb : b ∈ cs.map (·.2)) : s₁.heap.get? b = some tb0 ∧ K.lookup b = none := by
  obtain ⟨p, hp, e⟩ := List.mem_map.mp hb
  rw [← e]; exact ⟨z.tb p hp, z.nk p hp⟩
theorem At0.a_no (z : At0 K mg mb cs a vs s₁.heap) : a ∉ cs.map (·.2) := fun q => by
  have e := (z.tab_of q).1
  rw [z.sc] at e
  exact nomatch (congrArg Obj.data (Option.some.inj e) : Data.seq vs.toArray _ = Data.fields #[])
/-- an object that is neither a list nor an empty table is not told of -/
theorem At0.hidden (z : At0 K mg mb cs a vs s₁.heap) (t : Trk cs a H) {b : Addr} {o : Obj} (e : s₁.heap.get? b = some o) (h1 : ∀ us n, o.data ≠ .seq us n) (h2 : o.data ≠ .fields #[]) : (hidT s₁.heap H).get? b = some o :=
  hidT_get e (by
    cases q : H b with
    | none => rfl
    | some u =>
      rcases t.who b (by rw [q]; simp) with hb | hb
      · rw [hb, z.sc] at e; cases e; exact absurd rfl (h1 _ _)
      · rw [(z.tab_of hb).1] at e; cases e; exact absurd rfl h2)
theorem At0.ns (z : At0 K mg mb cs a vs s₁.heap) (t : Trk cs a H) {b : Addr} {m : Str → Option Value} (n : s₁.heap.Ns b m) : (hidT s₁.heap H).Ns b m :=
  let ⟨o, es, ep, e, d, r⟩ := n
  ⟨o, es, ep, z.hidden t e (fun _ _ q => by rw [d] at q; cases q) (fun q => by rw [d] at q; cases q), d, r⟩
theorem At0.inK (z : At0 K mg mb cs a vs s₁.heap) (t : Trk cs a H) (hK : H a ≠ none → K.lookup a = none) : K.In (hidT s₁.heap H) := fun b o e => hidT_get (z.kin b o e) (by
  cases q : H b with
  | none => rfl
  | some u =>
    have nn : H b ≠ none := by rw [q]; simp
    rcases t.who b nn with hb | hb
    · rw [hb] at e nn
      rw [hK nn] at e; cases e
    · rw [(z.tab_of hb).2] at e; cases e)
theorem At0.tabB (z : At0 K mg mb cs a vs s₁.heap) (t : Trk cs a H) (p : Addr × Addr) (hp : p ∈ cs) : LamX.TabB (hidT s₁.heap H) mg p.1 p.2 := by
  refine ⟨?_, ?_, fun q => ?_⟩
  · obtain ⟨o, us, file, tf, flags, tg, inF, text, tt, e1, r1, r2, r3, r⟩ := z.hd p hp
    refine ⟨o, us, file, tf, flags, tg, inF, text, tt, z.hidden t e1 (fun _ _ q => by rw [r2] at q; cases q) (fun q => ?_), r1, r2, r3, r⟩
    rw [r2] at q
    cases q
    simp at r3
  · obtain ⟨bm, ob, b1, b2, b3, b4, b5, b6⟩ := z.bm
    refine ⟨bm, ob, b1, b2, fun q => ?_, fun q => ?_, z.hidden t b3 (fun _ _ q => by rw [b6] at q; cases q) (fun q => by rw [b6] at q; cases q), b4, b5, b6⟩
    · obtain ⟨o, es, ep, e, d, _⟩ := z.g
      rw [q, e] at b3
      cases b3
      rw [d] at b6
      cases b6
    · rw [q, z.tb p hp] at b3
      cases b3
      cases b6
  · obtain ⟨o, es, ep, e, d, _⟩ := z.g
    rw [q, z.tb p hp] at e
    cases e
    cases d
theorem law_core {T : List (Addr × Str)} {k : Nat} {fa : Addr} {x xl : Str} {sp : DSp} {ns : List Int} (z : At0 K mg mb cs a vs s₁.heap) (hg : s₁.gens = #[]) (hr : Room k callerA) (hT : ∀ q ∈ T, ∃ p ∈ cs, q.1 = p.2)
    (hfa : mg xl = some (.ref fa)) (F : ∀ base : Heap, K.In base → base.Ns mainGlobals mg → (∀ p ∈ cs, LamX.TabB base mg p.1 p.2) → FnX P w K mg base T true k xl [x] sp)
    (hsp : sp [.scr (ns.map D.int)] (fun _ => none) (fun d _ => d = .bl true) fun _ _ _ => False)
    (t : Trk cs a H) (hS : SqL K H a (ns.map V.int)) (hok : HOk P w H s₁.heap) (hK : H a ≠ none → K.lookup a = none) :
    codeAny (model P w) callerA (.call (.ref fa) ⟨[.ref a], []⟩) (fun r s' => r = .ok (.ret (.bool true)) ∧ OldK s₁.heap s'.heap ∧ s'.os = s₁.os ∧ AllBare s'.gens) s₁ := by
  have kb := z.inK t hK
  have nb := z.ns t z.g
  have e0 : Env0 P w K mg (hidT s₁.heap H) callerA [] s₁ H := ⟨rfl, ⟨kb, nb, ⟨mb, z.ns t z.b, z.bb⟩, let ⟨mc, h1, h2⟩ := z.lim; ⟨mc, z.ns t h1, h2⟩⟩, fun b o e => of_hidT e, Nat.le_of_eq (hidT_size _ _), trivial, fun b hb => absurd (show b ∈ ([] : List Addr) from hb) (by simp), hok, .of_eq hg⟩
  have dl : ∀ l : List Int, DenL K H (fun _ => none) (l.map D.int) (l.map V.int) := fun l => by
    induction l with
    | nil => exact DenL.nil
    | cons i r ih => exact DenL.cons (by simp only [Den]) ih
  have dn : DenL K H (fun _ => none) [.scr (ns.map D.int)] [.ref a] := DenL.cons (by
    simp only [Den]
    exact ⟨a, ns.map V.int, rfl, hS.elim (fun h => .inl ⟨rfl, h⟩) .inr, dl ns⟩) DenL.nil
  have tb : LamX.Tabs T H := fun q hq => by
    obtain ⟨p, hp, e⟩ := hT q hq
    rw [e]
    exact LamX.TabS.nil (t.tbl p hp)
  obtain ⟨f, fd, FF, hmf, _, hb⟩ := (F _ kb nb (z.tabB t)).ex
  obtain rfl : f = fa := Value.ref.inj (Option.some.inj (hmf.symm.trans hfa))
  have hbind : BindsTo s₁ fd ⟨[.ref a], []⟩ [(x, .ref a)] := hb s₁ [.ref a] z.kin rfl
  refine codeAny_mono (FF.run callerA [] s₁ H (fun _ => none) ⟨[.ref a], []⟩ [.ref a] [.ref a] _ _ _ hr (fun _ => rfl) e0 hbind (.cons rfl .nil) dn (fun _ _ e => nomatch e) tb hsp) fun r s' h => ?_
  cases r with
  | error e =>
    obtain ⟨_, _, _, _, _, _, _, _, _, _, _, _, _, _, _, _, no⟩ := h
    exact no.elim
  | ok fl =>
    cases fl with
    | next => exact False.elim h
    | brk => exact False.elim h
    | cont => exact False.elim h
    | ret u =>
      obtain ⟨v, H', os, bare, un, hok', r', d, M', _, dd, rfl⟩ := h
      simp only [Den] at dd
      subst dd
      obtain rfl : u = Value.bool true := r'
      have key : ∀ b o, b ∉ cs.map (·.2) → s₁.heap.get? b = some o → s'.heap.get? b = some o := fun b o nb e => by
        cases q : H b with
        | none => exact un.keep b o e q (by intro z; exact absurd (show b ∈ ([] : List Addr) from z) (by simp)) (by simp)
        | some u =>
          rcases t.only b with y | y | ⟨ob, xs, y⟩
          · rw [q] at y; cases y
          · exact absurd y nb
          · obtain ⟨e1, _⟩ := hok b _ y
            obtain ⟨e2, _⟩ := hok' b _ (un.frzs b ob _ y)
            rw [e] at e1; cases e1
            exact e2
      refine ⟨rfl, ⟨fun b o e => ?_, fun b o e => ?_⟩, os, bare⟩
      · by_cases hb : b ∈ cs.map (·.2)
        · obtain ⟨p, hp, ep⟩ := List.mem_map.mp hb
          obtain ⟨more, y⟩ := un.tbls p.2 #[] (t.tbl p hp)
          have hm := hok' p.2 _ y
          rw [← ep] at e ⊢
          rw [z.tb p hp] at e
          cases e
          exact .inr (.inl ⟨((z.hd p hp).tab (z.tb p hp)).isCodeTable, rfl, #[], more, rfl, by rw [Array.empty_append] at hm ⊢; exact hm⟩)
        · exact .inl (key b o hb e)
      · by_cases hb : b ∈ cs.map (·.2)
        · obtain ⟨p, hp, ep⟩ := List.mem_map.mp hb
          obtain ⟨more, y⟩ := un.tbls p.2 #[] (t.tbl p hp)
          rw [← ep]
          exact ⟨_, hok' p.2 _ y⟩
        · exact ⟨o, key b o hb e⟩
def trk0 (cs : List (Addr × Addr)) : Hp := fun b => if b ∈ cs.map (·.2) then some (.tbl #[]) else none
def trk1 (cs : List (Addr × Addr)) (a : Addr) (vs : List Value) (ns : List Int) : Hp := fun b => if b = a then some (.frz { cls := .type "list", data := .seq vs.toArray } (.lst (ns.map V.int))) else trk0 cs b
theorem law_callG {T : List (Addr × Str)} {k : Nat} {fa : Addr} {x xl : Str} {sp : DSp} {ns : List Int} (z : At0 K mg mb cs a vs s₁.heap) (hg : s₁.gens = #[]) (hr : Room k callerA) (hT : ∀ q ∈ T, ∃ p ∈ cs, q.1 = p.2) (hi : IntsAre vs ns) (hl : ns.length ≤ sizeLine)
    (hfa : mg xl = some (.ref fa)) (F : ∀ base : Heap, K.In base → base.Ns mainGlobals mg → (∀ p ∈ cs, LamX.TabB base mg p.1 p.2) → FnX P w K mg base T true k xl [x] sp)
    (hsp : sp [.scr (ns.map D.int)] (fun _ => none) (fun d _ => d = .bl true) fun _ _ _ => False) :
    codeAny (model P w) callerA (.call (.ref fa) ⟨[.ref a], []⟩) (fun r s' => r = .ok (.ret (.bool true)) ∧ OldK s₁.heap s'.heap ∧ s'.os = s₁.os ∧ AllBare s'.gens) s₁ := by
  have rv := vals_ints hi
  have lenV := hi.length
  have memT : ∀ p ∈ cs, p.2 ∈ cs.map (·.2) := fun p hp => List.mem_map.mpr ⟨p, hp, rfl⟩
  have t0 : ∀ b, trk0 cs b ≠ none → b ∈ cs.map (·.2) := fun b h => Decidable.by_contra fun n => h (if_neg n)
  have ok0 : ∀ b u, trk0 cs b = some u → ObjOk P w (trk0 cs) s₁.heap b u → True := fun _ _ _ _ => trivial
  cases hk : K.lookup a with
  | some o =>
    have e := z.kin a o hk
    rw [z.sc] at e
    cases e
    refine law_core (H := trk0 cs) (ns := ns) z hg hr hT hfa F hsp ⟨fun p hp => if_pos (memT p hp), fun b => ?_, fun b h => .inr (t0 b h)⟩ (.inr ⟨_, vs.toArray, _, hk, rfl, rfl, rfl, by rw [List.size_toArray, lenV]; exact hl, by simpa using rv⟩) (fun b u q => ?_) fun h => absurd (t0 a h) z.a_no
    · by_cases hb : b ∈ cs.map (·.2)
      · exact .inr (.inl hb)
      · exact .inl (if_neg hb)
    · have hb := t0 b (by rw [q]; simp)
      have q' := (if_pos hb).symm.trans q
      cases q'
      exact (z.tab_of hb).1
  | none =>
    refine law_core (H := trk1 cs a vs ns) (ns := ns) z hg hr hT hfa F hsp ⟨fun p hp => ?_, fun b => ?_, fun b h => ?_⟩ (.inl (.inr ⟨{ cls := .type "list", data := .seq vs.toArray }, if_pos rfl⟩)) (fun b u q => ?_) fun _ => hk
    · exact (if_neg (show ¬ p.2 = a from fun y => z.a_no (y ▸ memT p hp))).trans (if_pos (memT p hp))
    · by_cases hb : b = a
      · exact .inr (.inr ⟨_, _, if_pos hb⟩)
      · by_cases hb2 : b ∈ cs.map (·.2)
        · exact .inr (.inl hb2)
        · exact .inl ((if_neg hb).trans (if_neg hb2))
    · by_cases hb : b = a
      · exact .inl hb
      · exact .inr (t0 b fun y => h ((if_neg hb).trans y))
    · by_cases hb : b = a
      · have q' := (if_pos hb).symm.trans q
        cases q'
        rw [hb]
        exact ⟨z.sc, by rw [List.length_map]; exact hl, vs, _, rv, z.sc⟩
      · have q1 := (if_neg hb).symm.trans q
        have hb2 := t0 b (by rw [q1]; simp)
        have q' := (if_pos hb2).symm.trans q1
        cases q'
        exact (z.tab_of hb2).1
end
/-- what is known of the law's promise at the head's heap -/
def LawG (l : PySem.W.OpenLaw) (w : World) (K : PySem.W.Frag) (k n : Nat) (x xl : Str) (mg : Str → Option Value) (fa : Addr) (h : Heap) : Prop :=
  mg xl = some (.ref fa) ∧ ∃ (cs : List (Addr × Addr)) (T : List (Addr × Str)) (sp : DSp), (∀ p ∈ cs, h.get? p.2 = some tb0) ∧ (∀ p ∈ cs, K.lookup p.2 = none) ∧ (∀ p ∈ cs, PySem.W.CodeHd h p.1 p.2) ∧ (∀ q ∈ T, ∃ p ∈ cs, q.1 = p.2) ∧
    (∀ ns : List Int, ns.length ≤ n → (∀ z ∈ ns, Builtin.Int.intBits z ≤ 1048576) → sp [.scr (ns.map D.int)] (fun _ => none) (fun d _ => d = .bl true) fun _ _ _ => False) ∧
    ∀ base : Heap, K.In base → base.Ns mainGlobals mg → (∀ p ∈ cs, LamX.TabB base mg p.1 p.2) → FnX l.prog w K mg base T true k xl [x] sp
theorem fun_of {K : PySem.W.Frag} {x qual : Str} {st : Stmt} {f : Addr} {fd : FuncData} (F : FunD K x qual (defArgs st) (defBody st) (defScope st) [] [] f fd) : Fun K x qual st f fd := by
  obtain ⟨oc, od, dV, kV, doc, pm, an, cdv, ct, osl, e, lk, hcd, dv, _⟩ := F.ex
  rcases dv with ⟨_, rfl⟩ | ⟨n, _⟩
  · exact ⟨⟨oc, od, kV, doc, pm, an, cdv, ct, osl, e, lk, hcd⟩, F.kp⟩
  · exact absurd rfl n
theorem walk_ofG {l : PySem.W.OpenLaw} {n k : Nat} {q : Program} {loose : List Str} {XP : (Str → Option Value) → Heap → Prop} {YP : World → Heap → Prop} {d : DefRec} {x xl : Str}
    (hn : l.most = some n) (hn2 : n ≤ sizeLine) (hdf : d.params.defaults = []) (hr : Room k callerA)
    (F : ∀ (w : World) (mg : Str → Option Value) (fa : Addr) (h : Heap), YP w h → h.Ns mainGlobals mg → mg d.name = some (.ref fa) → ∃ K : PySem.W.Frag, K.In h ∧ LawG l w K k n x xl mg fa h) :
    PySem.W.WalkO q loose XP YP l.row.toRowW d [] (fun f vs => PySem.call f vs) := by
  refine Att.attach_callB hn hdf fun w s₀ s₁ mg mb fa o pm cd doc a vs ns G Y ho hd hcd hmg hobj hints hlen hbits hg => ?_
  obtain ⟨K, kx, hfa, cs, T, sp, hT, nT, hC, hTs, hsp, hF⟩ := F w mg fa _ Y G.T.g hmg
  exact law_callG (cs := cs) ⟨kx, G.T.g, G.T.b, G.T.builtins, G.T.nolimit, hT, nT, hC, G.T.bmain, hobj⟩ hg hr hTs hints (Nat.le_trans hlen hn2) hfa hF (hsp ns hlen hbits)
/-! ### the promises -/
/-- a def that changes nothing: its value by its arguments -/
def pureP (n : Nat) (g : List D → Option D) : DSp := fun ds M Q _ => ds.length = n ∧ ok1 (g ds) fun r => Q r M
theorem len_pure {n : Nat} {g : List D → Option D} {ps : List Str} (h : ps.length = n := by rfl) : ∀ ds M Q E, pureP n g ds M Q E → ds.length = ps.length := fun ds M Q E q => by rw [h]; exact q.1
theorem mono_pure {n : Nat} {g : List D → Option D} : MonoP (pureP n g) := fun ds M Q Q' E E' h _ q => ⟨q.1, ok1_mono (fun r => h r M) q.2⟩
theorem endF_rt {Q : DK} {E : DX} {d : D} {M : Mp} (q : Q d M) : (endF Q E).rt d M := ⟨d, M, Cv.refl, q⟩
theorem endF_fix {Q : DK} {E : DX} {p : Addr} {xs : List D} {M : Mp} (h : M p = some (.lst xs)) (q : Q (.lst xs) (del M p)) : (endF Q E).rt (.ref p) M := ⟨_, _, Cv.fix h, q⟩
/-! ### loops by an invariant -/
theorem forT_ind {ok : Mp → Prop} {g : DG} {tb : DS} {En : DEnds} {ds : List D} (I : List D → List D → Sd → Mp → Prop)
    (step : ∀ pre x post τ M, pre ++ x :: post = ds → I pre (x :: post) τ M → ok M ∧ g x τ M fun τ1 M1 => tb { En with nx := I (pre ++ [x]) post, ct := I (pre ++ [x]) post, bk := En.nx } τ1 M1)
    (fin : ∀ τ M, I ds [] τ M → ok M ∧ En.nx τ M) (mg : MonoG g) (mb : MonoS tb) : ∀ (rest pre : List D) (τ : Sd) (M : Mp), pre ++ rest = ds → I pre rest τ M → forT ok g tb En rest τ M
  | [], pre, τ, M, e, h => by
    rw [List.append_nil] at e
    subst e
    exact fin τ M h
  | x :: post, pre, τ, M, e, h => by
    obtain ⟨h1, h2⟩ := step pre x post τ M e h
    have e' : pre ++ [x] ++ post = ds := by simpa using e
    have turns := fun τ' M' => forT_ind I step fin mg mb post (pre ++ [x]) τ' M' e'
    exact ⟨h1, mg x τ M _ _ (fun τ1 M1 => mb { En with nx := I (pre ++ [x]) post, ct := I (pre ++ [x]) post, bk := En.nx } { En with nx := forT ok g tb En post, ct := forT ok g tb En post, bk := En.nx } τ1 M1 ⟨turns, fun _ _ z => z, fun _ _ z => z, turns, fun _ _ _ _ z => z⟩) h2⟩
/-- a loop whose state is told of what is left alone -/
theorem forT_inv {ok : Mp → Prop} {g : DG} {tb : DS} {En : DEnds} (mg : MonoG g) (mb : MonoS tb) (I : List D → Sd → Mp → Prop)
    (step : ∀ x post τ M, I (x :: post) τ M → ok M ∧ g x τ M fun τ1 M1 => tb { En with nx := I post, ct := I post, bk := En.nx } τ1 M1)
    (fin : ∀ τ M, I [] τ M → ok M ∧ En.nx τ M) : ∀ (ds : List D) (τ : Sd) (M : Mp), I ds τ M → forT ok g tb En ds τ M
  | [], τ, M, h => fin τ M h
  | x :: post, τ, M, h => by
    obtain ⟨h1, h2⟩ := step x post τ M h
    have turns := forT_inv mg mb I step fin post
    exact ⟨h1, mg x τ M _ _ (fun τ1 M1 => mb { En with nx := I post, ct := I post, bk := En.nx } { En with nx := forT ok g tb En post, ct := forT ok g tb En post, bk := En.nx } τ1 M1 ⟨turns, fun _ _ z => z, fun _ _ z => z, turns, fun _ _ _ _ z => z⟩) h2⟩
theorem compT_inv {ok : Mp → Prop} {g : DG} {tt : DT} {te : DE} {p : Addr} {τ : Sd} {k : List D → Mp → Prop} (mg : MonoG g) (mt : MonoT tt) (me : MonoE te) (I : List D → List D → Mp → Prop)
    (step : ∀ x post acc M, I (x :: post) acc M → ok M ∧ M p = some .priv ∧ g x τ M fun τ2 M2 => tt τ2 M2 (fun b M3 => if b = true then te τ2 M3 (fun y M4 => I post (acc ++ [y]) M4) (fun _ _ _ => False) else I post acc M3) fun _ _ _ => False)
    (fin : ∀ acc M, I [] acc M → ok M ∧ M p = some .priv ∧ k acc M) : ∀ (ds acc : List D) (M : Mp), I ds acc M → compT ok g tt te p τ k ds acc M
  | [], acc, M, h => fin acc M h
  | x :: post, acc, M, h => by
    obtain ⟨h0, h1, h2⟩ := step x post acc M h
    have turns := compT_inv mg mt me I step fin post
    refine ⟨h0, h1, mg x τ M _ _ (fun τ1 M1 => mt τ1 M1 _ _ _ _ (fun b M3 z => ?_) fun _ _ _ z => z) h2⟩
    cases b with
    | true => rw [if_pos rfl] at z ⊢; exact me τ1 M3 _ _ _ _ (fun y M4 => turns (acc ++ [y]) M4) (fun _ _ _ z => z) z
    | false => rw [if_neg Bool.false_ne_true] at z ⊢; exact turns acc M3 z
/-- a comprehension that changes nothing -/
theorem comp_map {ok : Mp → Prop} {g : DG} {te : DE} {p : Addr} {τ : Sd} {k : List D → Mp → Prop} (mg : MonoG g) (me : MonoE te) {M : Mp} (f : D → D) (hp : M p = none) (hok : ok (put M p .priv)) : ∀ (ds acc : List D)
    (_ : ∀ x ∈ ds, g x τ (put M p .priv) fun τ2 M2 => te τ2 M2 (fun y M4 => y = f x ∧ M4 = put M p .priv) fun _ _ _ => False) (_ : k (acc ++ ds.map f) (put M p .priv)), compT ok g tYesD te p τ k ds acc (put M p .priv)
  | [], acc, _, hk => ⟨hok, put_same, by simpa using hk⟩
  | x :: ds, acc, hx, hk => by
    refine ⟨hok, put_same, mg x τ _ _ _ (fun τ1 M1 z => ?_) (hx x List.mem_cons_self)⟩
    show (if true = true then te τ1 M1 (fun y M4 => compT ok g tYesD te p τ k ds (acc ++ [y]) M4) (fun _ _ _ => False) else compT ok g tYesD te p τ k ds acc M1)
    rw [if_pos rfl]
    refine me τ1 M1 _ _ _ _ (fun y M4 ⟨e1, e2⟩ => ?_) (fun _ _ _ z => z) z
    subst e1; subst e2
    exact comp_map mg me f hp hok ds _ (fun x hx' => hx x (List.mem_cons_of_mem _ hx')) (by simpa using hk)
theorem comp_filter {ok : Mp → Prop} {g : DG} {tt : DT} {te : DE} {p : Addr} {τ : Sd} {k : List D → Mp → Prop} (mg : MonoG g) (mt : MonoT tt) (me : MonoE te) {M : Mp} (f : D → D) (t : D → Bool) (hp : M p = none) (hok : ok (put M p .priv)) : ∀ (ds acc : List D)
    (_ : ∀ x ∈ ds, g x τ (put M p .priv) fun τ2 M2 => tt τ2 M2 (fun b M3 => b = t x ∧ M3 = put M p .priv ∧ (b = true → te τ2 M3 (fun y M4 => y = f x ∧ M4 = put M p .priv) fun _ _ _ => False)) fun _ _ _ => False) (_ : k (acc ++ (ds.filter t).map f) (put M p .priv)), compT ok g tt te p τ k ds acc (put M p .priv)
  | [], acc, _, hk => ⟨hok, put_same, by simpa using hk⟩
  | x :: ds, acc, hx, hk => by
    refine ⟨hok, put_same, mg x τ _ _ _ (fun τ1 M1 z => mt τ1 M1 _ _ _ _ (fun b M3 ⟨e1, e2, z⟩ => ?_) (fun _ _ _ z => z) z) (hx x List.mem_cons_self)⟩
    have hx' := fun y (hy : y ∈ ds) => hx y (List.mem_cons_of_mem _ hy)
    cases b with
    | true =>
      rw [if_pos rfl]
      refine me τ1 M3 _ _ _ _ (fun y M4 ⟨e3, e4⟩ => ?_) (fun _ _ _ z => z) (z rfl)
      subst e3; subst e4
      refine comp_filter mg mt me f t hp hok ds _ hx' ?_
      rw [List.filter_cons_of_pos e1.symm] at hk
      simpa using hk
    | false =>
      rw [if_neg Bool.false_ne_true]
      subst e2
      refine comp_filter mg mt me f t hp hok ds _ hx' ?_
      rw [List.filter_cons_of_neg (by rw [← e1]; simp)] at hk
      exact hk
/-! ### the facts of the head -/
theorem defAt_of {K : PySem.W.Frag} {h : Heap} {mg : Str → Option Value} {x : Str} {st : Stmt} (X : K.In h) (G : h.Ns mainGlobals mg) (F : ∃ fd, FunD K x x (defArgs st) (defBody st) (defScope st) [] [] (He.fAd K (x, none)) fd) (g : (He.Fa.glo x).ok K = true) : DefAt K mg x st := by
  obtain ⟨fd, F⟩ := F
  exact ⟨_, fd, fun_of F, He.glo_ok X G g⟩
end DL

/-! Names, orders, short words. -/
namespace DL
open PySem PySem.Spec PyProof.Rows L2
section
variable {C : DC} {e elt tg iter a b c : Expr} {es ifs : List Expr} {x y z : Str} {p pos spos : Pos} {ta tb te : DE} {t : DA} {id T : String}
/-! ### names in short: a local, a cell, a free name -/
theorem dvl (i : Nat) (hN : C.X.N[i]? = some x := by rfl) (hv : C.X.env.scope.names.lookup x = some .local := by rfl) (hd : (x == ("__debug__" : Str)) = false := by decide) (hcd : (x == ("__classdict__" : Str)) = false := by decide) : DPE C (.Name x pos) (dVar i) := de_var hN (.inl hv) hd hcd
theorem dvc (i : Nat) (hN : C.X.N[i]? = some x := by rfl) (hv : C.X.env.scope.names.lookup x = some .cell := by rfl) (hd : (x == ("__debug__" : Str)) = false := by decide) (hcd : (x == ("__classdict__" : Str)) = false := by decide) : DPE C (.Name x pos) (dVar i) := de_var hN (.inr (.inl hv)) hd hcd
theorem dvf (i : Nat) (hN : C.X.N[i]? = some x := by rfl) (hv : C.X.env.scope.names.lookup x = some .free := by rfl) (hd : (x == ("__debug__" : Str)) = false := by decide) (hcd : (x == ("__classdict__" : Str)) = false := by decide) : DPE C (.Name x pos) (dVar i) := de_var hN (.inr (.inr hv)) hd hcd
theorem dgl (i : Nat) (hi : C.X.N[i]? = some x := by rfl) (hx : C.X.env.scope.names.lookup x = some .local := by rfl) (hf : C.X.fn x = true ∨ C.X.env.scope.names.lookup x = some .local := by first | exact .inl rfl | exact .inr rfl | assumption) : DPG C (.Name x pos) (gVar i) := dg_name hi (.inl hx) hf
theorem dgc (i : Nat) (hi : C.X.N[i]? = some x := by rfl) (hx : C.X.env.scope.names.lookup x = some .cell := by rfl) (hf : C.X.fn x = true ∨ C.X.env.scope.names.lookup x = some .local := by first | exact .inl rfl | exact .inr rfl | assumption) : DPG C (.Name x pos) (gVar i) := dg_name hi (.inr hx) hf
theorem dwl {vs : List Nat} (i : Nat) (hv : i ∈ vs := by decide) (hi : C.X.N[i]? = some x := by rfl) (hx : C.X.env.scope.names.lookup x = some .local := by rfl) (hf : C.X.fn x = true ∨ C.X.env.scope.names.lookup x = some .local := by first | exact .inl rfl | exact .inr rfl | assumption) : DPW C (.Name x pos) vs (gVar i) := dw_name hv hi (.inl hx) hf
theorem dwc {vs : List Nat} (i : Nat) (hv : i ∈ vs := by decide) (hi : C.X.N[i]? = some x := by rfl) (hx : C.X.env.scope.names.lookup x = some .cell := by rfl) (hf : C.X.fn x = true ∨ C.X.env.scope.names.lookup x = some .local := by first | exact .inl rfl | exact .inr rfl | assumption) : DPW C (.Name x pos) vs (gVar i) := dw_name hv hi (.inr hx) hf
theorem dsl (i : Nat) {pos' : Pos} (he : DPE C e te) (hi : C.X.N[i]? = some x := by rfl) (hx : C.X.env.scope.names.lookup x = some .local := by rfl) (hs : swapsWith e (some (.Name x pos')) pos.line C.X.env = pure false := by rfl) (hf : C.X.fn x = true ∨ C.X.env.scope.names.lookup x = some .local := by first | exact .inl rfl | exact .inr rfl | assumption) : DPS C (.Assign [.Name x pos'] e pos) (sAsg te (gVar i)) := ds_set he hi (.inl hx) hs hf
theorem dsc (i : Nat) {pos' : Pos} (he : DPE C e te) (hi : C.X.N[i]? = some x := by rfl) (hx : C.X.env.scope.names.lookup x = some .cell := by rfl) (hs : swapsWith e (some (.Name x pos')) pos.line C.X.env = pure false := by rfl) (hf : C.X.fn x = true ∨ C.X.env.scope.names.lookup x = some .local := by first | exact .inl rfl | exact .inr rfl | assumption) : DPS C (.Assign [.Name x pos'] e pos) (sAsg te (gVar i)) := ds_set he hi (.inr hx) hs hf
/-- a constant of the module -/
theorem dgi {i : Int} (hm : ∃ t, C.X.mg x = some (.int i t)) (hg : Gl C.X x := by rfl) (hd : (x == ("__debug__" : Str)) = false := by decide) : DPE C (.Name x pos) (dC (.int i)) :=
  let ⟨t, e⟩ := hm; de_glob (v := .int i) hg e ⟨t, rfl⟩ (fun _ _ => by simp only [Den]) hd
theorem dgs {i : Str} (hm : ∃ t, C.X.mg x = some (.str i t)) (hg : Gl C.X x := by rfl) (hd : (x == ("__debug__" : Str)) = false := by decide) : DPE C (.Name x pos) (dC (.str i)) :=
  let ⟨t, e⟩ := hm; de_glob (v := .str i) hg e ⟨t, rfl⟩ (fun _ _ => by simp only [Den]) hd
/-- a builtin type by name -/
theorem dty (hm : C.X.mg x = none) (hv : bootBuiltins x = some (.type T)) (hg : Gl C.X x := by rfl) (hn : x ≠ "__name__" := by decide) (hd : (x == ("__debug__" : Str)) = false := by decide) : DPE C (.Name x pos) (dC (.ty T)) :=
  ⟨mono_c, fun pins s σ H τ M Q I er sr q => ld_blt I hg hm hv ⟨.ty T, H, .ty T, M, I, rfl, Go.refl sr, by simp only [Den], q⟩ hn hd⟩
/-! ### built-ins in short -/
theorem dcb {g : OL} (hm : C.X.mg x = none) (hv : bootBuiltins x = some (.builtin id)) (hc : DCl C (.builtin id) g) (ha : DPA C (e :: es) t) (hg : Gl C.X x := by rfl) (hn : x ≠ "__name__" := by decide) (hdb : (x == ("__debug__" : Str)) = false := by decide)
    (he : starEach (e :: es) C.X.env = (false, eval e C.X.env) :: starEach es C.X.env := by rfl) (hpl : (backTo pos (starEach es C.X.env)).any (·.1) = false := by rfl) : DPE C (.Call (.Name x p) (e :: es) [] pos) (dFn g t) := de_callB hc hg hm hv ha hn hdb he hpl
theorem dct {g : OL} (hm : C.X.mg x = none) (hv : bootBuiltins x = some (.type T)) (hc : DCl C (.type T) g) (ha : DPA C (e :: es) t) (hg : Gl C.X x := by rfl) (hn : x ≠ "__name__" := by decide) (hdb : (x == ("__debug__" : Str)) = false := by decide)
    (he : starEach (e :: es) C.X.env = (false, eval e C.X.env) :: starEach es C.X.env := by rfl) (hpl : (backTo pos (starEach es C.X.env)).any (·.1) = false := by rfl) : DPE C (.Call (.Name x p) (e :: es) [] pos) (dFn g t) := de_callT hc hg hm hv ha hn hdb he hpl
theorem gb_of {a b : Bool} (h : (a && !b) = false) : a = true → b = true := by cases a <;> cases b <;> simp_all
theorem dcx {ps : List Str} {sp : DSp} {k : Nat} {gb : Bool} (F : FnX C.X.prog C.X.w C.X.K C.X.mg C.X.base C.T gb k x ps sp) (ha : DPA C (e :: es) t) (hk : Nat.ble k C.lv = true := by rfl) (hgb : (gb && !C.gb) = false := by rfl) (hc : C.X.calm = true := by rfl) (hg : Gl C.X x := by rfl) (hdb : (x == ("__debug__" : Str)) = false := by decide)
    (he : starEach (e :: es) C.X.env = (false, eval e C.X.env) :: starEach es C.X.env := by rfl) (hpl : (backTo pos (starEach es C.X.env)).any (·.1) = false := by rfl) : DPE C (.Call (.Name x p) (e :: es) [] pos) (dCall sp t) := de_callX F (gb_of hgb) (Nat.le_of_ble_eq_true hk) hc hg ha hdb he hpl
theorem dcx0 {ps : List Str} {sp : DSp} {k : Nat} {gb : Bool} (F : FnX C.X.prog C.X.w C.X.K C.X.mg C.X.base C.T gb k x ps sp) (hk : Nat.ble k C.lv = true := by rfl) (hgb : (gb && !C.gb) = false := by rfl) (hc : C.X.calm = true := by rfl) (hg : Gl C.X x := by rfl) (hdb : (x == ("__debug__" : Str)) = false := by decide) : DPE C (.Call (.Name x p) [] [] pos) (dCall sp dNil) := de_callX0 F (gb_of hgb) (Nat.le_of_ble_eq_true hk) hc hg hdb
/-! ### is, orders -/
def fIs : O2 := fun x y _ => match y with
  | .non => some (.bl (isNon x))
  | .bl b => match x with
    | .bl a => some (.bl (decide (a = b)))
    | _ => none
  | _ => none
def fIsNot : O2 := fun x y _ => match y with
  | .non => some (.bl (!isNon x))
  | .bl b => match x with
    | .bl a => some (.bl (!decide (a = b)))
    | _ => none
  | _ => none
theorem dop_is : DOp C (compareOp .Is) fIs := fun pins s σ H M x y u v d e z I sr r1 r2 d1 d2 ez => by
  unfold fIs at ez
  split at ez <;> try cases ez
  · exact dop_isN pins s σ H M x y u v d .non _ I sr r1 r2 d1 d2 rfl
  · split at ez <;> cases ez
    simp only [Den] at d1 d2
    exact thn (op_is_bl pins s σ H x y u v (fun w H' => H' = H ∧ w = .bl _) I r1 r2 ⟨_, _, d1, d2, rfl, rfl⟩) fun w s' ⟨wv, H', I', rw, e1, e2⟩ => by
      subst e1; subst e2
      exact ⟨_, H', _, M, I', rw, Go.refl sr, by simp only [Den], rfl, rfl⟩
theorem dop_isNot : DOp C (compareOp .IsNot) fIsNot := fun pins s σ H M x y u v d e z I sr r1 r2 d1 d2 ez => by
  unfold fIsNot at ez
  split at ez <;> try cases ez
  · exact dop_notN pins s σ H M x y u v d .non _ I sr r1 r2 d1 d2 rfl
  · split at ez <;> cases ez
    simp only [Den] at d1 d2
    exact thn (op_isnot_bl pins s σ H x y u v (fun w H' => H' = H ∧ w = .bl _) I r1 r2 ⟨_, _, d1, d2, rfl, rfl⟩) fun w s' ⟨wv, H', I', rw, e1, e2⟩ => by
      subst e1; subst e2
      exact ⟨_, H', _, M, I', rw, Go.refl sr, by simp only [Den], rfl, rfl⟩
/-- comparable by < -/
def ordB (x y : D) : Bool := shp 60 x && shp 60 y && PySem.W.alike (pyT x) (pyT y) && !isNon x
def fOrd (g : PyData → PyData → Bool) (h : Int → Int → Bool) : O2 := fun x y M => match x, y with
  | .int i, .int j => some (.bl (h i j))
  | _, _ => if ordB (deref M x) (deref M y) = true then some (.bl (g (pyT (deref M x)) (pyT (deref M y)))) else none
def fLtD : O2 := fOrd PySem.W.dataLt fun i j => decide (i < j)
def fGtD : O2 := fOrd (fun a b => PySem.W.dataLt b a) fun i j => decide (j < i)
def fLeD : O2 := fOrd (fun a b => !PySem.W.dataLt b a) fun i j => decide (i ≤ j)
def fGeD : O2 := fOrd (fun a b => !PySem.W.dataLt a b) fun i j => decide (j ≤ i)
theorem dop_ord {F : Value → Value → Sem Value} {g : PyData → PyData → Bool} {h : Int → Int → Bool} (hi : DOp C F (fI (fun _ _ => true) fun i j => .bl (h i j)))
    (hd : ∀ (s : Shared) (u v : Value) (da db : PyData) (as bs : List Addr) (Q E : Value → Shared → Prop), Reads s.heap u da as → Reads s.heap v db bs → PySem.W.alike da db = true → da ≠ .none → C.X.A.units + min da.depth db.depth < cLine → Q (.bool (g da db)) s → wpAny (model C.X.prog C.X.w) C.X.A (F u v) Q E s) : DOp C F (fOrd g h) :=
  fun pins s σ H M x y u v d e z I sr r1 r2 d1 d2 ez => by
  unfold fOrd at ez
  split at ez
  · cases ez
    exact hi pins s σ H M x y u v _ _ _ I sr r1 r2 d1 d2 (by simp only [fI, if_true])
  · split at ez <;> cases ez
    rename_i hB
    unfold ordB at hB
    simp only [Bool.and_eq_true] at hB
    obtain ⟨⟨⟨s1, s2⟩, al⟩, nn⟩ := hB
    have p1 := deref_dp sr.abs (shp_mono (by omega) s1) d1
    have p2 := deref_dp sr.abs (shp_mono (by omega) s2) d2
    obtain ⟨as, R1⟩ := Dp.reads I _ x u p1 r1
    obtain ⟨bs, R2⟩ := Dp.reads I _ y v p2 r2
    refine hd s u v _ _ as bs _ _ R1 R2 al (fun q => ?_) ?_ ⟨.bl _, H, .bl _, M, I, rfl, Go.refl sr, by simp only [Den], rfl, rfl⟩
    · cases hx : deref M d <;> rw [hx] at q nn s1 <;> simp [pyT, isNon, shp] at q nn s1
    · have h1 := (shp_shaped s1).2
      have h2 := C.un
      omega
theorem dop_ltD : DOp C (compareOp .Lt) fLtD := dop_ord dop_lt fun s u v da db as bs Q E ra rb h hn hu hq => PySem.W.lt_data ra rb h hn hu hq
theorem dop_gtD : DOp C (compareOp .Gt) fGtD := dop_ord dop_gt fun s u v da db as bs Q E ra rb h hn hu hq => PySem.W.gt_data ra rb h hn hu hq
theorem dop_leD : DOp C (compareOp .LtE) fLeD := dop_ord dop_le fun s u v da db as bs Q E ra rb h hn hu hq => PySem.W.le_data ra rb h hn hu hq
theorem dop_geD : DOp C (compareOp .GtE) fGeD := dop_ord dop_ge fun s u v da db as bs Q E ra rb h hn hu hq => PySem.W.ge_data ra rb h hn hu hq
/-! ### a, b = x, y -/
theorem ds_par (i j : Nat) {px py pt p2 : Pos} {kt k2 : Nat} (ha : DPA C [a, b] t) (hc : C.X.calm = true := by rfl) (hi : C.X.N[i]? = some x := by rfl) (hj : C.X.N[j]? = some y := by rfl) (hij : i ≠ j := by decide)
    (hx : C.X.env.scope.names.lookup x = some .local := by rfl) (hy : C.X.env.scope.names.lookup y = some .local := by rfl)
    (hw : swappedStores [.Tuple [.Name x px, .Name y py] kt pt] (.Tuple [a, b] k2 p2) C.X.env = pure (some [x, y]) := by rfl)
    (hs : swapsWithSole [.Tuple [.Name x px, .Name y py] kt pt] (.Tuple [a, b] k2 p2) pos.line C.X.env = pure false := by rfl) :
    DPS C (.Assign [.Tuple [.Name x px, .Name y py] kt pt] (.Tuple [a, b] k2 p2) pos) (sPar i j t) :=
  .of (monoS_par ha.mono) (ps_par hc C.nd hi hj hij hx hy ha.pa hw hs) fun H M τ σ D er sr q => ⟨τ, M, er, sr, ha.mono _ _ _ _ _ _ (fun ds M' z vs H' g l => by
    revert z
    split
    · intro z
      obtain ⟨v, w, rfl, d1, d2⟩ := l.two
      refine ⟨v, w, rfl, _, M', ?_, g, z⟩
      rw [setV_set, setV_set]
      exact ((er.keep g.keep).set d1).set d2
    · exact False.elim) (fun _ _ _ z => z) q⟩
def sPar3 (i j l : Nat) (t : DA) : DS := fun D τ M => t τ M (fun ds M1 => match ds with
  | [x, y, z] => D.nx (setV (setV (setV τ i (some x)) j (some y)) l (some z)) M1
  | _ => False) fun c fs M1 => D.ex c fs τ M1
theorem monoS_par3 {i j l : Nat} (m : MonoA t) : MonoS (sPar3 i j l t) := fun a b τ M h q => m τ M _ _ _ _ (fun ds M1 z => by
  revert z
  split
  · exact h.nx _ _
  · exact False.elim) (fun c fs M1 => h.ex c fs τ M1) q
theorem ds_par3 (i j l : Nat) {px py pz pt p2 : Pos} {kt k2 : Nat} (ha : DPA C [a, b, c] t) (hc : C.X.calm = true := by rfl) (hi : C.X.N[i]? = some x := by rfl) (hj : C.X.N[j]? = some y := by rfl) (hl : C.X.N[l]? = some z := by rfl) (hij : i ≠ j := by decide) (hil : i ≠ l := by decide) (hjl : j ≠ l := by decide)
    (hx : C.X.env.scope.names.lookup x = some .local := by rfl) (hy : C.X.env.scope.names.lookup y = some .local := by rfl) (hz : C.X.env.scope.names.lookup z = some .local := by rfl)
    (hw : swappedStores [.Tuple [.Name x px, .Name y py, .Name z pz] kt pt] (.Tuple [a, b, c] k2 p2) C.X.env = pure (some [x, y, z]) := by rfl)
    (hs : swapsWithSole [.Tuple [.Name x px, .Name y py, .Name z pz] kt pt] (.Tuple [a, b, c] k2 p2) pos.line C.X.env = pure false := by rfl) :
    DPS C (.Assign [.Tuple [.Name x px, .Name y py, .Name z pz] kt pt] (.Tuple [a, b, c] k2 p2) pos) (sPar3 i j l t) :=
  .of (monoS_par3 ha.mono) (ps_par3 hc C.nd hi hj hl hij hil hjl hx hy hz ha.pa hw hs) fun H M τ σ D er sr q => ⟨τ, M, er, sr, ha.mono _ _ _ _ _ _ (fun ds M' z vs H' g l => by
    revert z
    split
    · intro z
      obtain ⟨u, v, w, rfl, d1, d2, d3⟩ := l.three
      refine ⟨u, v, w, rfl, _, M', ?_, g, z⟩
      rw [setV_set, setV_set, setV_set]
      exact (((er.keep g.keep).set d1).set d2).set d3
    · exact False.elim) (fun _ _ _ z => z) q⟩
/-! ### y = [..], the list changed later -/
theorem ds_compM {scope : Scope} {own : List (Str × Nat)} {i : Nat} {py : Pos} {wi : DI} {g : DG} {tt : DT} (hc : C.X.calm = true) (hy : C.X.N[i]? = some y) (hyl : C.X.env.scope.names.lookup y = some .local)
    (hsw : swapsWith (.ListComp elt [⟨tg, iter, ifs, 0⟩] scope pos) (some (.Name y py)) spos.line C.X.env = pure true) (hi : DPI C tg iter wi) (ok : BlkOk C.X.N C.X.env.scope scope own)
    (hg : ∀ (s : Shared) (H : Hp) (A : Addr) (cl : List (Str × Addr)) (fp : List Addr), DPW (blk C s H scope (compEnvC scope cl A C.X.env) fp) tg (own.map (·.2)) g)
    (ht : ∀ (s : Shared) (H : Hp) (A : Addr) (cl : List (Str × Addr)) (fp : List Addr), DPTs (blk C s H scope (compEnvC scope cl A C.X.env) fp) ifs tt)
    (he : ∀ (s : Shared) (H : Hp) (A : Addr) (cl : List (Str × Addr)) (fp : List Addr), DPE (blk C s H scope (compEnvC scope cl A C.X.env) fp) elt te) (hs : ∀ x, foldedSetIterable iter C.X.env x = pure x := by intro _; rfl) :
    DPS C (.Assign [.Name y py] (.ListComp elt [⟨tg, iter, ifs, 0⟩] scope pos) spos) (sAsg (dCompM wi g tt te (own.map (·.2))) (gVar i)) := by
  have mg := (hg C.X.s_0 C.X.H_0 0 [] []).mono
  have mt := (ht C.X.s_0 C.X.H_0 0 [] []).mono
  have me := (he C.X.s_0 C.X.H_0 0 [] []).mono
  refine .of (monoS_asg (mono_compM hi.mono mg mt me) monoG_var) (ps_setLc hc C.nd hy hyl hsw hi.pi ok (fun s H A cl fp => (hg s H A cl fp).pg) (fun s H A cl fp => (ht s H A cl fp).pts) (fun s H A cl fp => (he s H A cl fp).pb) hs) fun H M τ σ D er sr q => ?_
  refine ⟨τ, M, er, sr, hi.mono _ _ _ _ _ _ (fun ds oks M' z J H' g1 fe p hp => ?_) (fun _ _ _ z => z) q⟩
  refine comp_lc (Q := fun x H1 => L2.gName i x σ H1 (endsOf C H M D).nx) mg mt me (sr.go g1) (er.keep g1.keep) fe p hp (z p (g1.abs.free hp)) fun acc M2 H2 ws k hM g2 hH l hz => ?_
  have kp : KeepR H2 M2 H2 (put M2 p (.lst acc)) := fun a u e n _ => ⟨by rw [put_ne (fun z => by rw [z, hM] at n; cases n)]; exact n, e⟩
  have g3 : Go C H' M' H2 (put M2 p (.lst acc)) := by
    refine ⟨fun a u e n nt => ?_, fun a o e => ?_, g2.tab⟩
    · have := g2.keep a u e n nt
      rw [put_ne (ne_of_none e hp)]
      exact this
    · by_cases ha : a = p
      · subst ha
        rw [put_same] at e; cases e
        exact ⟨ws, hH, DenL.keepR kp _ l⟩
      · rw [put_ne ha] at e
        exact (g2.abs a o e).keepR kp rfl
  refine ⟨_, put M2 p (.lst acc), ?_, g1.trans g3, k⟩
  rw [setV_set]
  refine EnvR.set ((er.keep g1.keep).keep g3.keep) ?_
  simp only [Den]
/-- a def whose promise is empty -/
def botP : DSp := fun _ _ _ _ => False
theorem fnx_bot {P : Program} {w : World} {K : PySem.W.Frag} {mg : Str → Option Value} {base : Heap} {T : List (Addr × Str)} {st : Stmt} {ps : List Str} (A : DefAt K mg x st) (hb : BindN x st ps) : FnX P w K mg base T false 0 x ps botP := by
  obtain ⟨f, fd, F, e⟩ := A
  exact ⟨f, fd, ⟨fun _ _ _ _ q => q.elim, fun _ _ _ _ _ _ _ _ q => q.elim, fun _ _ _ _ _ _ _ _ _ _ _ _ _ _ _ _ _ _ _ q => q.elim⟩, e, F.kp, F.binds hb⟩
end
/-! ### the built-ins' names -/
theorem bb_len : bootBuiltins "len" = some (.builtin "len") := by decide +kernel
theorem bb_all : bootBuiltins "all" = some (.builtin "all") := by decide +kernel
theorem bb_any : bootBuiltins "any" = some (.builtin "any") := by decide +kernel
theorem bb_sum : bootBuiltins "sum" = some (.builtin "sum") := by decide +kernel
theorem bb_max : bootBuiltins "max" = some (.builtin "max") := by decide +kernel
theorem bb_min : bootBuiltins "min" = some (.builtin "min") := by decide +kernel
theorem bb_abs : bootBuiltins "abs" = some (.builtin "abs") := by decide +kernel
theorem bb_repr : bootBuiltins "repr" = some (.builtin "repr") := by decide +kernel
theorem bb_sorted : bootBuiltins "sorted" = some (.builtin "sorted") := by decide +kernel
theorem bb_isinstance : bootBuiltins "isinstance" = some (.builtin "isinstance") := by decide +kernel
theorem bb_int : bootBuiltins "int" = some (.type "int") := by decide +kernel
theorem bb_bool : bootBuiltins "bool" = some (.type "bool") := by decide +kernel
theorem bb_str : bootBuiltins "str" = some (.type "str") := by decide +kernel
theorem bb_tuple : bootBuiltins "tuple" = some (.type "tuple") := by decide +kernel
theorem bb_list : bootBuiltins "list" = some (.type "list") := by decide +kernel
theorem bb_dict : bootBuiltins "dict" = some (.type "dict") := by decide +kernel
theorem bb_set : bootBuiltins "set" = some (.type "set") := by decide +kernel
end DL

/-! The readings, by simp. -/
namespace DL
open PySem PySem.Spec PyProof.Rows L2
section
variable {ta tb tc te to ti : DE} {t : DA} {u v : DS} {A B c : DT} {g : DG} {gs : DGs} {wi : DI} {τ : Sd} {M : Mp} {Q : DK} {QB : Bool → Mp → Prop} {QA : List D → Mp → Prop} {QI : List D → (Mp → Prop) → Mp → Prop} {QG : Sd → Mp → Prop} {E : DX} {En : DEnds} {d : D} {ds : List D} {i j l n : Nat} {f h : O2} {fl : OL} {sp : DSp}
@[simp] theorem z_next : sNext En τ M = En.nx τ M := of_eq_true (eq_self _)
@[simp] theorem z_seq : sSeq u v En τ M = u { En with nx := v En } τ M := of_eq_true (eq_self _)
@[simp] theorem z_brk : sBreak En τ M = En.bk τ M := of_eq_true (eq_self _)
@[simp] theorem z_cont : sCont En τ M = En.ct τ M := of_eq_true (eq_self _)
@[simp] theorem z_drop : sDrop te En τ M = te τ M (fun _ M1 => En.nx τ M1) (fun c fs M1 => En.ex c fs τ M1) := of_eq_true (eq_self _)
@[simp] theorem z_ret : sRet te En τ M = te τ M En.rt (fun c fs M1 => En.ex c fs τ M1) := of_eq_true (eq_self _)
@[simp] theorem z_if : sIf c u v En τ M = c τ M (fun k M1 => if k = true then u En τ M1 else v En τ M1) (fun c fs M1 => En.ex c fs τ M1) := of_eq_true (eq_self _)
@[simp] theorem z_never : sNever En τ M = False := of_eq_true (eq_self _)
@[simp] theorem z_asg : sAsg te g En τ M = te τ M (fun d M1 => g d τ M1 En.nx) (fun c fs M1 => En.ex c fs τ M1) := of_eq_true (eq_self _)
@[simp] theorem z_par : sPar i j t En τ M = t τ M (fun ds M1 => match ds with
  | [x, y] => En.nx (setV (setV τ i (some x)) j (some y)) M1
  | _ => False) (fun c fs M1 => En.ex c fs τ M1) := of_eq_true (eq_self _)
@[simp] theorem z_par3 : sPar3 i j l t En τ M = t τ M (fun ds M1 => match ds with
  | [x, y, z] => En.nx (setV (setV (setV τ i (some x)) j (some y)) l (some z)) M1
  | _ => False) (fun c fs M1 => En.ex c fs τ M1) := of_eq_true (eq_self _)
@[simp] theorem z_for : sFor wi g u En τ M = wi τ M (fun ds ok M1 => forT ok g u En ds τ M1) (fun c fs M1 => En.ex c fs τ M1) := of_eq_true (eq_self _)
@[simp] theorem z_for0 {ok : Mp → Prop} : forT ok g u En [] τ M = (ok M ∧ En.nx τ M) := of_eq_true (eq_self _)
@[simp] theorem z_for1 {ok : Mp → Prop} : forT ok g u En (d :: ds) τ M = (ok M ∧ g d τ M fun τ' M' => u { En with nx := forT ok g u En ds, ct := forT ok g u En ds, bk := En.nx } τ' M') := of_eq_true (eq_self _)
@[simp] theorem z_var : dVar i τ M Q E = ok1 (getV τ i) (fun d => Q d M) := of_eq_true (eq_self _)
@[simp] theorem z_c : dC d τ M Q E = Q d M := of_eq_true (eq_self _)
@[simp] theorem z_get0 {o : Option D} {r : Sd} : getV (o :: r) 0 = o := of_eq_true (eq_self _)
@[simp] theorem z_get1 {o : Option D} {r : Sd} : getV (o :: r) (i + 1) = getV r i := of_eq_true (eq_self _)
@[simp] theorem z_set0 {o x : Option D} {r : Sd} : setV (o :: r) 0 x = x :: r := of_eq_true (eq_self _)
@[simp] theorem z_set1 {o x : Option D} {r : Sd} : setV (o :: r) (i + 1) x = o :: setV r i x := of_eq_true (eq_self _)
@[simp] theorem z_op : dOp f ta tb τ M Q E = ta τ M (fun x M1 => tb τ M1 (fun y M2 => ok1 (f x y M2) fun z => Q z M2) E) E := of_eq_true (eq_self _)
@[simp] theorem z_fn : dFn fl t τ M Q E = t τ M (fun ds M1 => ok1 (fl ds M1) fun z => Q z M1) E := of_eq_true (eq_self _)
@[simp] theorem z_call : dCall sp t τ M Q E = t τ M (fun ds M1 => sp ds M1 Q E) E := of_eq_true (eq_self _)
@[simp] theorem z_and : dAnd ta tb τ M Q E = ta τ M (fun x M1 => ok1 (bool1 x) fun c => if c = true then tb τ M1 Q E else Q (.bl false) M1) E := of_eq_true (eq_self _)
@[simp] theorem z_or : dOr ta tb τ M Q E = ta τ M (fun x M1 => ok1 (bool1 x) fun c => if c = true then Q (.bl true) M1 else tb τ M1 Q E) E := of_eq_true (eq_self _)
@[simp] theorem z_not : dNot ta τ M Q E = ta τ M (fun x M1 => ok1 (bool1 x) fun c => Q (.bl (!c)) M1) E := of_eq_true (eq_self _)
@[simp] theorem z_neg : dNeg ta τ M Q E = ta τ M (fun x M1 => match x with
  | .int i => Q (.int (-i)) M1
  | _ => False) E := of_eq_true (eq_self _)
@[simp] theorem z_ife : dIf c ta tb τ M Q E = c τ M (fun k M1 => if k = true then ta τ M1 Q E else tb τ M1 Q E) E := of_eq_true (eq_self _)
@[simp] theorem z_chain : dChain f h ta tb tc τ M Q E = ta τ M (fun x M1 => tb τ M1 (fun y M2 => ok1 (f x y M2) fun z => ok1 (bool1 z) fun k =>
  if k = true then tc τ M2 (fun w M3 => ok1 (h y w M3) fun z => Q z M3) E else Q (.bl false) M2) E) E := of_eq_true (eq_self _)
@[simp] theorem z_nil : dNil τ M QA E = QA [] M := of_eq_true (eq_self _)
@[simp] theorem z_cons : dCons ta t τ M QA E = ta τ M (fun d M1 => t τ M1 (fun ds M2 => QA (d :: ds) M2) E) E := of_eq_true (eq_self _)
@[simp] theorem z_tup : dTup t τ M Q E = t τ M (fun ds M1 => ds.length ≤ sizeLine ∧ Q (.tup ds) M1) E := of_eq_true (eq_self _)
@[simp] theorem z_lst : dLst t τ M Q E = t τ M (fun ds M1 => ds.length ≤ sizeLine ∧ Q (.lst ds) M1) E := of_eq_true (eq_self _)
@[simp] theorem z_lstM : dLstM t τ M Q E = t τ M (fun ds M1 => ds.length ≤ sizeLine ∧ ∀ p, M1 p = none → Q (.ref p) (put M1 p (.lst ds))) E := of_eq_true (eq_self _)
@[simp] theorem z_tOf : tOf ta τ M QB E = ta τ M (fun d M1 => ok1 (bool1 d) fun b => QB b M1) E := of_eq_true (eq_self _)
@[simp] theorem z_tand : tAnd A B τ M QB E = A τ M (fun c M1 => if c = true then B τ M1 QB E else QB false M1) E := of_eq_true (eq_self _)
@[simp] theorem z_tor : tOr A B τ M QB E = A τ M (fun c M1 => if c = true then QB true M1 else B τ M1 QB E) E := of_eq_true (eq_self _)
@[simp] theorem z_tnot : tNot A τ M QB E = A τ M (fun c M1 => QB (!c) M1) E := of_eq_true (eq_self _)
@[simp] theorem z_yes : tYesD τ M QB E = QB true M := of_eq_true (eq_self _)
@[simp] theorem z_gvar : gVar i d τ M QG = QG (setV τ i (some d)) M := of_eq_true (eq_self _)
@[simp] theorem z_gnil : gNil [] τ M QG = QG τ M := of_eq_true (eq_self _)
@[simp] theorem z_gcons : gCons g gs (d :: ds) τ M QG = g d τ M (fun τ' M' => gs ds τ' M' QG) := of_eq_true (eq_self _)
@[simp] theorem z_gtup : gTup n gs (.tup ds) τ M QG = (ds.length = n ∧ gs ds τ M QG) := of_eq_true (eq_self _)
@[simp] theorem z_gsub : gSub to ti d τ M QG = to τ M (fun o M1 => ti τ M1 (fun i M2 => ok1 (setAt M2 o i d) fun M3 => QG τ M3) fun _ _ _ => False) (fun _ _ _ => False) := of_eq_true (eq_self _)
@[simp] theorem z_iseq : iSeq te τ M QI E = te τ M (fun d M1 => ok1 (items M1 d) fun xs => QI xs (okOf d xs) M1) E := of_eq_true (eq_self _)
@[simp] theorem z_izip : iZip t τ M QI E = t τ M (fun ds M1 => match ds with
  | [x, y] => alikeSeq M1 x y = true ∧ ok1 (items M1 x) fun xs => ok1 (items M1 y) fun ys => QI (pairs xs ys) (fun N => okOf x xs N ∧ okOf y ys N) M1
  | _ => False) E := of_eq_true (eq_self _)
@[simp] theorem z_range1 : iRange1 t τ M QI E = t τ M (fun ds M1 => match ds with
  | [.int j] => (-4000000000000000000 ≤ j ∧ j ≤ 16777216) ∧ QI (rangeD 0 j.toNat) (fun _ => True) M1
  | _ => False) E := of_eq_true (eq_self _)
@[simp] theorem z_range2 : iRange2 t τ M QI E = t τ M (fun ds M1 => match ds with
  | [.int i, .int j] => (-4000000000000000000 ≤ i ∧ i ≤ 4000000000000000000 ∧ -4000000000000000000 ≤ j ∧ j ≤ 4000000000000000000 ∧ j - i ≤ 16777216) ∧ QI (rangeD i (j - i).toNat) (fun _ => True) M1
  | _ => False) E := of_eq_true (eq_self _)
@[simp] theorem z_comp {vs : List Nat} : dComp wi g c te vs τ M Q E = wi τ M (fun ds ok M1 => ∀ p, M1 p = none → compT ok g c te p (wipeD τ vs) (fun acc M2 => Q (.lst acc) (del M2 p)) ds [] (put M1 p .priv)) E := of_eq_true (eq_self _)
@[simp] theorem z_compM {vs : List Nat} : dCompM wi g c te vs τ M Q E = wi τ M (fun ds ok M1 => ∀ p, M1 p = none → compT ok g c te p (wipeD τ vs) (fun acc M2 => Q (.ref p) (put M2 p (.lst acc))) ds [] (put M1 p .priv)) E := of_eq_true (eq_self _)
@[simp] theorem z_comp0 {ok : Mp → Prop} {p : Addr} {acc : List D} {K : List D → Mp → Prop} : compT ok g c te p τ K [] acc M = (ok M ∧ M p = some .priv ∧ K acc M) := of_eq_true (eq_self _)
@[simp] theorem z_comp1 {ok : Mp → Prop} {p : Addr} {acc : List D} {K : List D → Mp → Prop} : compT ok g c te p τ K (d :: ds) acc M = (ok M ∧ M p = some .priv ∧ g d τ M fun τ2 M2 => c τ2 M2 (fun b M3 => if b = true then te τ2 M3 (fun y M4 => compT ok g c te p τ K ds (acc ++ [y]) M4) (fun _ _ _ => False) else compT ok g c te p τ K ds acc M3) fun _ _ _ => False) := of_eq_true (eq_self _)
@[simp] theorem z_wipe0 : wipeD τ [] = τ := of_eq_true (eq_self _)
@[simp] theorem z_wipe1 {vs : List Nat} : wipeD τ (i :: vs) = setV (wipeD τ vs) i none := of_eq_true (eq_self _)
@[simp] theorem z_meth {ty : Mp → D → Prop} {r : DM} : dMeth ty r to t τ M Q E = to τ M (fun x M1 => ty M1 x ∧ t τ M1 (fun ds M2 => r x ds M2 Q) E) E := of_eq_true (eq_self _)
@[simp] theorem z_app {a : Addr} : rApp (.ref a) [d] M Q = (match M a with
    | some (.lst xs) => xs.length < sizeLine ∧ Q .non (put M a (.lst (xs ++ [d])))
    | _ => False) := of_eq_true (eq_self _)
theorem tyLst_of {a : Addr} {xs : List D} (h : M a = some (.lst xs)) : tyLst M (.ref a) := ⟨a, xs, rfl, h⟩
@[simp] theorem z_onone {QO : Option Int → Mp → Prop} : oNone τ M QO E = QO none M := of_eq_true (eq_self _)
@[simp] theorem z_osome {QO : Option Int → Mp → Prop} : oSome te τ M QO E = te τ M (fun d M1 => match d with
  | .int i => QO (some i) M1
  | _ => False) E := of_eq_true (eq_self _)
@[simp] theorem z_part {tl th : DO} : dPart te tl th τ M Q E = te τ M (fun x M1 => tl τ M1 (fun lo M2 => th τ M2 (fun hi M3 => ok1 (part M3 x lo hi) fun z => Q z M3) E) E) E := of_eq_true (eq_self _)
@[simp] theorem z_pure {g : List D → Option D} : pureP n g ds M Q E = (ds.length = n ∧ ok1 (g ds) fun r => Q r M) := of_eq_true (eq_self _)
end
/-! ### the operations by kinds -/
section
variable {M : Mp} {i j : Int} {a b : Bool} {d e : D} {xs ys : List D} {s z : Str}
@[simp] theorem z_bool1 : bool1 (.bl a) = some a := of_eq_true (eq_self _)
@[simp] theorem z_sub : fSub (.int i) (.int j) M = some (.int (i - j)) := of_eq_true (eq_self _)
@[simp] theorem z_add : fAdd (.int i) (.int j) M = some (.int (i + j)) := of_eq_true (eq_self _)
theorem z_mul : fMul (.int i) (.int j) M = if (small i || small j) = true then some (.int (i * j)) else none := rfl
theorem z_mulc (h : small j = true) : fMul (.int i) (.int j) M = some (.int (i * j)) := by rw [z_mul, h, Bool.or_true, if_pos rfl]
theorem z_mulc' (h : small i = true) : fMul (.int i) (.int j) M = some (.int (i * j)) := by rw [z_mul, h, Bool.true_or, if_pos rfl]
theorem z_div (h1 : 0 < j) (h2 : j < 1073741824) : fDiv (.int i) (.int j) M = some (.int (i / j)) := by simp [fDiv, fI, h1, h2]
theorem z_mod (h1 : 0 < j) : fMod (.int i) (.int j) M = some (.int (i % j)) := by simp [fMod, fI, h1]
@[simp] theorem z_lt : fLtD (.int i) (.int j) M = some (.bl (decide (i < j))) := of_eq_true (eq_self _)
@[simp] theorem z_le : fLeD (.int i) (.int j) M = some (.bl (decide (i ≤ j))) := of_eq_true (eq_self _)
@[simp] theorem z_gt : fGtD (.int i) (.int j) M = some (.bl (decide (j < i))) := of_eq_true (eq_self _)
@[simp] theorem z_ge : fGeD (.int i) (.int j) M = some (.bl (decide (j ≤ i))) := of_eq_true (eq_self _)
@[simp] theorem z_eqI : fEq (.int i) (.int j) M = some (.bl (decide (i = j))) := by
  simp only [fEq, deref, shp, and_self, if_true, deq]; rfl
@[simp] theorem z_neI : fNe (.int i) (.int j) M = some (.bl (!decide (i = j))) := by
  simp only [fNe, deref, shp, and_self, if_true, deq]; rfl
@[simp] theorem z_eqB : fEq (.bl a) (.bl b) M = some (.bl (a == b)) := by
  simp only [fEq, deref, shp, and_self, if_true, deq]
@[simp] theorem z_neB : fNe (.bl a) (.bl b) M = some (.bl (!(a == b))) := by
  simp only [fNe, deref, shp, and_self, if_true, deq]
@[simp] theorem z_isN : fIs d .non M = some (.bl (isNon d)) := of_eq_true (eq_self _)
@[simp] theorem z_isB : fIs (.bl a) (.bl b) M = some (.bl (decide (a = b))) := of_eq_true (eq_self _)
@[simp] theorem z_isNotN : fIsNot d .non M = some (.bl (!isNon d)) := of_eq_true (eq_self _)
@[simp] theorem z_isNotB : fIsNot (.bl a) (.bl b) M = some (.bl (!decide (a = b))) := of_eq_true (eq_self _)
@[simp] theorem z_ixT : fIx (.tup xs) (.int i) M = L2.atI xs i := of_eq_true (eq_self _)
@[simp] theorem z_ixL : fIx (.lst xs) (.int i) M = L2.atI xs i := of_eq_true (eq_self _)
@[simp] theorem z_ixS : fIx (.scr xs) (.int i) M = L2.atI xs i := of_eq_true (eq_self _)
theorem z_ixR {p : Addr} (h : M p = some (.lst xs)) : fIx (.ref p) (.int i) M = L2.atI xs i := by
  simp [fIx, items, h]
@[simp] theorem z_at0 {α : Type} {x : α} {r : List α} : L2.atI (x :: r) 0 = some x := by simp [L2.atI, L2.ixN]
theorem z_atN {α : Type} (r : List α) (k : Nat) : L2.atI r (k : Int) = r[k]? := by
  unfold L2.atI L2.ixN
  rw [if_pos (by omega)]
  split
  · simp
  · rename_i h
    rw [List.getElem?_eq_none (by omega)]; rfl
@[simp] theorem z_atS {α : Type} {x : α} {r : List α} {n : Nat} : L2.atI (x :: r) ((n : Int) + 1) = L2.atI r (n : Int) := by
  rw [show (n : Int) + 1 = ((n + 1 : Nat) : Int) from rfl, z_atN, z_atN]; rfl
@[simp] theorem z_at1 {α : Type} {x y : α} {r : List α} : L2.atI (x :: y :: r) 1 = some y := by rw [show (1 : Int) = ((1 : Nat) : Int) from rfl, z_atN]; rfl
@[simp] theorem z_at2 {α : Type} {x y z : α} {r : List α} : L2.atI (x :: y :: z :: r) 2 = some z := by rw [show (2 : Int) = ((2 : Nat) : Int) from rfl, z_atN]; rfl
@[simp] theorem z_at3 {α : Type} {x y z u : α} {r : List α} : L2.atI (x :: y :: z :: u :: r) 3 = some u := by rw [show (3 : Int) = ((3 : Nat) : Int) from rfl, z_atN]; rfl
@[simp] theorem z_at4 {α : Type} {x y z u v : α} {r : List α} : L2.atI (x :: y :: z :: u :: v :: r) 4 = some v := by rw [show (4 : Int) = ((4 : Nat) : Int) from rfl, z_atN]; rfl
@[simp] theorem z_atL {α : Type} {x : α} {r : List α} : L2.atI (r ++ [x]) (-1) = some x := by
  unfold L2.atI L2.ixN
  simp
  rw [show (-1 + ((r.length : Int) + 1)).toNat = r.length by omega]
  split
  · simp
  · omega
@[simp] theorem z_lenT : gLen [.tup xs] M = some (.int xs.length) := of_eq_true (eq_self _)
@[simp] theorem z_lenL : gLen [.lst xs] M = some (.int xs.length) := of_eq_true (eq_self _)
@[simp] theorem z_lenS : gLen [.scr xs] M = some (.int xs.length) := of_eq_true (eq_self _)
theorem z_lenR {p : Addr} (h : M p = some (.lst xs)) : gLen [.ref p] M = some (.int xs.length) := by simp [gLen, items, h]
@[simp] theorem z_itT : items M (.tup xs) = some xs := of_eq_true (eq_self _)
@[simp] theorem z_itL : items M (.lst xs) = some xs := of_eq_true (eq_self _)
@[simp] theorem z_itS : items M (.scr xs) = some xs := of_eq_true (eq_self _)
theorem z_itR {p : Addr} (h : M p = some (.lst xs)) : items M (.ref p) = some xs := by simp [items, h]
@[simp] theorem z_okT : okOf (.tup xs) ys M = True := of_eq_true (eq_self _)
@[simp] theorem z_okL : okOf (.lst xs) ys M = True := of_eq_true (eq_self _)
@[simp] theorem z_okS : okOf (.scr xs) ys M = True := of_eq_true (eq_self _)
@[simp] theorem z_okR {p : Addr} : okOf (.ref p) ys M = (M p = some (.lst ys)) := of_eq_true (eq_self _)
@[simp] theorem z_alT : alikeSeq M (.tup xs) (.tup ys) = true := of_eq_true (eq_self _)
@[simp] theorem z_alL : alikeSeq M (.lst xs) (.lst ys) = true := of_eq_true (eq_self _)
@[simp] theorem z_int : gInt [.int i] M = some (.int i) := of_eq_true (eq_self _)
@[simp] theorem z_abs : gAbs [.int i] M = some (.int (if i < 0 then -i else i)) := of_eq_true (eq_self _)
@[simp] theorem z_max2 : gMax [.int i, .int j] M = some (.int (if j > i then j else i)) := of_eq_true (eq_self _)
@[simp] theorem z_min2 : gMin [.int i, .int j] M = some (.int (if j < i then j else i)) := of_eq_true (eq_self _)
@[simp] theorem z_tupT : gTuple [.tup xs] M = some (.tup xs) := of_eq_true (eq_self _)
@[simp] theorem z_tupL : gTuple [.lst xs] M = some (.tup xs) := of_eq_true (eq_self _)
theorem z_tupR {p : Addr} (h : M p = some (.lst xs)) : gTuple [.ref p] M = some (.tup xs) := by simp [gTuple, items, h]
@[simp] theorem z_allL : gAll [.lst xs] M = (flags xs).bind fun bs => some (.bl (bs.all fun b => b)) := of_eq_true (eq_self _)
@[simp] theorem z_anyL : gAny [.lst xs] M = (flags xs).bind fun bs => some (.bl (bs.any fun b => b)) := of_eq_true (eq_self _)
@[simp] theorem z_sumL : gSum [.lst xs] M = (nums xs).bind fun bs => some (.int bs.sum) := of_eq_true (eq_self _)
@[simp] theorem z_sumT : gSum [.tup xs] M = (nums xs).bind fun bs => some (.int bs.sum) := of_eq_true (eq_self _)
@[simp] theorem z_fl0 : flags [] = some [] := of_eq_true (eq_self _)
@[simp] theorem z_fl1 : flags (.bl a :: xs) = (flags xs).map (a :: ·) := of_eq_true (eq_self _)
theorem flags_map {α : Type} (f : α → Bool) : ∀ l : List α, flags (l.map fun x => D.bl (f x)) = some (l.map f)
  | [] => rfl
  | x :: r => by simp [flags_map f r]
theorem nums_map {α : Type} (f : α → Int) : ∀ l : List α, nums (l.map fun x => D.int (f x)) = some (l.map f)
  | [] => rfl
  | x :: r => by
    have := nums_map f r
    simp only [List.map_cons, nums, this, Option.map_some]
/-! isinstance -/
def tyOf : D → String
  | .non => "NoneType"
  | .bl _ => "bool"
  | .int _ => "int"
  | .str _ => "str"
  | .tup _ => "tuple"
  | .lst _ => "list"
  | .scr _ => "list"
  | _ => ""
@[simp] theorem z_isiI {n : String} (h : asked.contains n = true := by decide) : gIsi [.int i, .ty n] M = some (.bl (isiB "int" n)) := by simp only [gIsi, h, if_true, typeN, Option.map_some]
@[simp] theorem z_isiB {n : String} (h : asked.contains n = true := by decide) : gIsi [.bl a, .ty n] M = some (.bl (isiB "bool" n)) := by simp only [gIsi, h, if_true, typeN, Option.map_some]
@[simp] theorem z_isiN {n : String} (h : asked.contains n = true := by decide) : gIsi [.non, .ty n] M = some (.bl (isiB "NoneType" n)) := by simp only [gIsi, h, if_true, typeN, Option.map_some]
@[simp] theorem z_isiS {n : String} (h : asked.contains n = true := by decide) : gIsi [.str s, .ty n] M = some (.bl (isiB "str" n)) := by simp only [gIsi, h, if_true, typeN, Option.map_some]
@[simp] theorem z_isiT {n : String} (h : asked.contains n = true := by decide) : gIsi [.tup xs, .ty n] M = some (.bl (isiB "tuple" n)) := by simp only [gIsi, h, if_true, typeN, Option.map_some]
@[simp] theorem z_isiL {n : String} (h : asked.contains n = true := by decide) : gIsi [.lst xs, .ty n] M = some (.bl (isiB "list" n)) := by simp only [gIsi, h, if_true, typeN, Option.map_some]
@[simp] theorem z_ask1 : asked.contains "int" = true := by decide
@[simp] theorem z_ask2 : asked.contains "bool" = true := by decide
@[simp] theorem z_ask3 : asked.contains "str" = true := by decide
@[simp] theorem z_ask4 : asked.contains "tuple" = true := by decide
@[simp] theorem z_ask5 : asked.contains "list" = true := by decide
@[simp] theorem z_ask6 : asked.contains "dict" = true := by decide
theorem isi_eq {t n : String} : isiB t n = (t == n || (t == "bool" && n == "int")) := rfl
@[simp] theorem isi1 : isiB "int" "int" = true := by decide
@[simp] theorem isi2 : isiB "int" "bool" = false := by decide
@[simp] theorem isi3 : isiB "int" "tuple" = false := by decide
@[simp] theorem isi4 : isiB "int" "list" = false := by decide
@[simp] theorem isi5 : isiB "int" "str" = false := by decide
@[simp] theorem isi6 : isiB "bool" "int" = true := by decide
@[simp] theorem isi7 : isiB "bool" "bool" = true := by decide
@[simp] theorem isi8 : isiB "bool" "tuple" = false := by decide
@[simp] theorem isi9 : isiB "bool" "list" = false := by decide
@[simp] theorem isi10 : isiB "bool" "str" = false := by decide
@[simp] theorem isi11 : isiB "tuple" "tuple" = true := by decide
@[simp] theorem isi12 : isiB "tuple" "list" = false := by decide
@[simp] theorem isi13 : isiB "tuple" "int" = false := by decide
@[simp] theorem isi14 : isiB "tuple" "bool" = false := by decide
@[simp] theorem isi15 : isiB "tuple" "str" = false := by decide
@[simp] theorem isi16 : isiB "list" "list" = true := by decide
@[simp] theorem isi17 : isiB "list" "tuple" = false := by decide
@[simp] theorem isi18 : isiB "list" "int" = false := by decide
@[simp] theorem isi19 : isiB "list" "bool" = false := by decide
@[simp] theorem isi20 : isiB "list" "str" = false := by decide
@[simp] theorem isi21 : isiB "NoneType" "int" = false := by decide
@[simp] theorem isi22 : isiB "NoneType" "bool" = false := by decide
@[simp] theorem isi23 : isiB "NoneType" "tuple" = false := by decide
@[simp] theorem isi24 : isiB "NoneType" "list" = false := by decide
@[simp] theorem isi25 : isiB "NoneType" "str" = false := by decide
@[simp] theorem isi26 : isiB "str" "str" = true := by decide
@[simp] theorem isi27 : isiB "str" "int" = false := by decide
@[simp] theorem isi28 : isiB "str" "bool" = false := by decide
@[simp] theorem isi29 : isiB "str" "tuple" = false := by decide
@[simp] theorem isi30 : isiB "str" "list" = false := by decide
@[simp] theorem z_non1 : isNon .non = true := of_eq_true (eq_self _)
@[simp] theorem z_non2 : isNon (.bl a) = false := of_eq_true (eq_self _)
@[simp] theorem z_non3 : isNon (.int i) = false := of_eq_true (eq_self _)
@[simp] theorem z_non4 : isNon (.str s) = false := of_eq_true (eq_self _)
@[simp] theorem z_non5 : isNon (.tup xs) = false := of_eq_true (eq_self _)
@[simp] theorem z_non6 : isNon (.lst xs) = false := of_eq_true (eq_self _)
/-! slices -/
theorem cut_from (n : Nat) : cutD xs (some (n : Int)) none = xs.drop n := by
  unfold cutD
  simp only [HT.sIx]
  rw [if_neg (by omega)]
  by_cases h : n ≤ xs.length
  · rw [show min (n : Int).toNat xs.length = n by omega, List.take_of_length_le (by rw [List.length_drop]; omega)]
  · rw [show min (n : Int).toNat xs.length = xs.length by omega, List.drop_eq_nil_of_le (Nat.le_refl _), List.drop_eq_nil_of_le (by omega), List.take_nil]
theorem cut_to (n : Nat) : cutD xs none (some (n : Int)) = xs.take n := by
  unfold cutD
  simp only [HT.sIx]
  rw [if_neg (by omega), List.drop_zero, Nat.sub_zero]
  by_cases h : n ≤ xs.length
  · rw [show min (n : Int).toNat xs.length = n by omega]
  · rw [show min (n : Int).toNat xs.length = xs.length by omega, List.take_of_length_le (Nat.le_refl _), List.take_of_length_le (by omega)]
@[simp] theorem cut1 : cutD xs (some 1) none = xs.drop 1 := cut_from 1
@[simp] theorem z_partT {lo hi : Option Int} : part M (.tup xs) lo hi = some (.tup (cutD xs lo hi)) := of_eq_true (eq_self _)
@[simp] theorem z_partL {lo hi : Option Int} : part M (.lst xs) lo hi = some (.lst (cutD xs lo hi)) := of_eq_true (eq_self _)
@[simp] theorem z_partS {lo hi : Option Int} : part M (.scr xs) lo hi = some (.lst (cutD xs lo hi)) := of_eq_true (eq_self _)
end
end DL

/-! How long a text of data is; sums over lists; orders. -/
namespace DL
open PySem PySem.Spec PyProof.Rows L2
mutual
/-- a bound of the text's length -/
def wd : D → Nat
  | .int i => (toString i).length
  | .tup xs => 3 + wds xs
  | .lst xs => 3 + wds xs
  | .scr xs => 3 + wds xs
  | .str s => 10 * s.length + 2
  | _ => 5
def wds : List D → Nat
  | [] => 0
  | x :: xs => wd x + 2 + wds xs
end
theorem listText_le (ts : List Str) : (listText ts).length ≤ piled ts + 2 := by
  unfold listText
  rw [strLen_append]
  have e1 : ((("]" : String) : Str)).length = 1 := rfl
  rw [e1]
  cases ts with
  | nil => exact (show (1 : Nat) + 1 ≤ 0 + 2 by omega)
  | cons t r =>
    show (textFrom 1 _ r).length + 1 ≤ _
    rw [textFrom_length_pos r 1 _ (by decide), piled_cons, strLen_append, strLen_append]
    have e2 : ((("[" : String) : Str)).length = 1 := rfl
    have e3 : (((if (0 : Nat) > 0 then ", " else "" : String) : Str)).length = 0 := rfl
    rw [e2, e3]
    omega
theorem tupleText_le (ts : List Str) : (tupleText ts).length ≤ piled ts + 3 := by
  unfold tupleText
  rw [strLen_append, strLen_append]
  have e1 : ((("(" : String) : Str)).length = 1 := rfl
  have e3 : (((if ts.length == 1 then ",)" else ")" : String) : Str)).length ≤ 2 := by split <;> decide
  have e4 : (Str.join ", " ts).length ≤ piled ts := by
    cases ts with
    | nil => exact Nat.le_of_eq rfl
    | cons t r => have := join_length_add (t :: r) (by simp); omega
  rw [e1]
  omega
mutual
/-- plain data without text, nested at most n deep -/
def nst : Nat → D → Bool
  | _, .non => true
  | _, .bl _ => true
  | _, .int _ => true
  | n + 1, .tup xs => nsts n xs
  | n + 1, .lst xs => nsts n xs
  | _, _ => false
def nsts : Nat → List D → Bool
  | _, [] => true
  | n, x :: xs => nst n x && nsts n xs
end
mutual
theorem shown_wd : ∀ (n : Nat) (d : D), nst n d = true → (pyT d).shown.length ≤ wd d
  | _, .non, _ => by simp only [pyT, PyData.shown, wd]; decide
  | _, .bl b, _ => by simp only [pyT, PyData.shown, wd]; cases b <;> decide
  | _, .int i, _ => by
    simp only [pyT, PyData.shown, wd]
    exact Nat.le_of_eq (by
      show (Str.ofString (toString i)).length = _
      rw [PySem.ofString_length])
  | n + 1, .tup xs, h => by
    simp only [nst] at h
    simp only [pyT, PyData.shown, wd]
    have := shown_wds n xs h
    have := tupleText_le (PyData.shownAll (pyTs xs))
    omega
  | n + 1, .lst xs, h => by
    simp only [nst] at h
    simp only [pyT, PyData.shown, wd]
    have := shown_wds n xs h
    have := listText_le (PyData.shownAll (pyTs xs))
    omega
  | 0, .tup _, h => by simp [nst] at h
  | 0, .lst _, h => by simp [nst] at h
  | _, .scr _, h => by simp [nst] at h
  | _, .str _, h => by simp [nst] at h
  | _, .ref _, h => by simp [nst] at h
  | _, .ty _, h => by simp [nst] at h
theorem shown_wds : ∀ (n : Nat) (xs : List D), nsts n xs = true → piled (PyData.shownAll (pyTs xs)) ≤ wds xs
  | _, [], _ => by simp [pyTs, PyData.shownAll, wds, piled_nil]
  | n, x :: xs, h => by
    simp only [nsts, Bool.and_eq_true] at h
    simp only [pyTs, PyData.shownAll, wds, piled_cons]
    have := shown_wd n x h.1
    have := shown_wds n xs h.2
    omega
end
mutual
theorem nst_shp : ∀ (n : Nat) (d : D), nst n d = true → shp n d = true
  | _, .non, _ => by simp [shp]
  | _, .bl b, _ => by simp [shp]
  | _, .int i, _ => by simp [shp]
  | n + 1, .tup xs, h => by
    simp only [nst] at h
    simp only [shp]
    exact nsts_shp n xs h
  | n + 1, .lst xs, h => by
    simp only [nst] at h
    simp only [shp]
    exact nsts_shp n xs h
  | 0, .tup _, h => by simp [nst] at h
  | 0, .lst _, h => by simp [nst] at h
  | _, .scr _, h => by simp [nst] at h
  | _, .str _, h => by simp [nst] at h
  | _, .ref _, h => by simp [nst] at h
  | _, .ty _, h => by simp [nst] at h
theorem nsts_shp : ∀ (n : Nat) (xs : List D), nsts n xs = true → xs.all (shp n) = true
  | _, [], _ => rfl
  | n, x :: xs, h => by
    simp only [nsts, Bool.and_eq_true] at h
    simp only [List.all_cons, Bool.and_eq_true]
    exact ⟨nst_shp n x h.1, nsts_shp n xs h.2⟩
end
mutual
/-- ints of few digits only -/
def sml : D → Bool
  | .int i => decide (i.natAbs < 10 ^ 40)
  | .tup xs => smls xs
  | .lst xs => smls xs
  | .scr xs => smls xs
  | _ => true
def smls : List D → Bool
  | [] => true
  | x :: xs => sml x && smls xs
end
mutual
theorem sml_show : ∀ (n : Nat) (d : D), nst n d = true → sml d = true → (pyT d).showable = true
  | _, .non, _, _ => by simp [pyT, PyData.showable]
  | _, .bl b, _, _ => by simp [pyT, PyData.showable]
  | _, .int i, _, h => by
    simp only [sml, decide_eq_true_eq] at h
    simp only [pyT, PyData.showable, decide_eq_true_eq]
    by_cases h0 : i.natAbs = 0
    · rw [h0]; decide
    · exact (Nat.log2_lt h0).mpr (Nat.lt_trans h (by decide +kernel))
  | n + 1, .tup xs, h, q => by
    simp only [nst] at h
    simp only [sml] at q
    simp only [pyT, PyData.showable]
    exact smls_show n xs h q
  | n + 1, .lst xs, h, q => by
    simp only [nst] at h
    simp only [sml] at q
    simp only [pyT, PyData.showable]
    exact smls_show n xs h q
  | 0, .tup _, h, _ => by simp [nst] at h
  | 0, .lst _, h, _ => by simp [nst] at h
  | _, .scr _, h, _ => by simp [nst] at h
  | _, .str _, h, _ => by simp [nst] at h
  | _, .ref _, h, _ => by simp [nst] at h
  | _, .ty _, h, _ => by simp [nst] at h
theorem smls_show : ∀ (n : Nat) (xs : List D), nsts n xs = true → smls xs = true → PyData.showableAll (pyTs xs) = true
  | _, [], _, _ => by simp [pyTs, PyData.showableAll]
  | n, x :: xs, h, q => by
    simp only [nsts, Bool.and_eq_true] at h
    simp only [smls, Bool.and_eq_true] at q
    simp only [pyTs, PyData.showableAll, Bool.and_eq_true]
    exact ⟨sml_show n x h.1 q.1, smls_show n xs h.2 q.2⟩
end
theorem wd_int {i : Int} (h : i.natAbs < 10 ^ 40) : wd (.int i) ≤ 41 := by
  simp only [wd]
  exact int_text_length_le10 (by decide) h
/-- the text of plain small data -/
theorem repr_ok {n : Nat} {xs : List D} {M : Mp} (hn : n ≤ 63) (h : nsts n xs = true) (hs : smls xs = true) (hw : wds xs ≤ 16777000) :
    gRepr [.lst xs] M = some (.str (pyT (.lst xs)).shown) ∧ gRepr [.tup xs] M = some (.str (pyT (.tup xs)).shown) := by
  have hl : nst (n + 1) (.lst xs) = true := by simp only [nst]; exact h
  have ht : nst (n + 1) (.tup xs) = true := by simp only [nst]; exact h
  constructor
  · have a1 := shp_mono (show n + 1 ≤ 64 by omega) (nst_shp _ _ hl)
    have a2 := sml_show _ _ hl (by simp only [sml]; exact hs)
    have a3 := shown_wd _ _ hl
    simp only [wd] at a3
    have a4 : (pyT (.lst xs)).shown.length ≤ sizeLine := Nat.le_trans a3 (by unfold sizeLine; omega)
    show (if (shp 64 (.lst xs) && rprOk (pyT (.lst xs))) = true then _ else _) = _
    rw [if_pos]
    simp only [rprOk, a1, a2, a4, decide_true, Bool.and_self]
  · have a1 := shp_mono (show n + 1 ≤ 64 by omega) (nst_shp _ _ ht)
    have a2 := sml_show _ _ ht (by simp only [sml]; exact hs)
    have a3 := shown_wd _ _ ht
    simp only [wd] at a3
    have a4 : (pyT (.tup xs)).shown.length ≤ sizeLine := Nat.le_trans a3 (by unfold sizeLine; omega)
    show (if (shp 64 (.tup xs) && rprOk (pyT (.tup xs))) = true then _ else _) = _
    rw [if_pos]
    simp only [rprOk, a1, a2, a4, decide_true, Bool.and_self]
theorem wds_le {k : Nat} : ∀ xs : List D, (∀ x ∈ xs, wd x ≤ k) → wds xs ≤ (k + 2) * xs.length
  | [], _ => by simp [wds]
  | x :: xs, h => by
    have h1 := h x List.mem_cons_self
    have h2 := wds_le xs fun y hy => h y (List.mem_cons_of_mem _ hy)
    simp only [wds, List.length_cons]
    rw [Nat.mul_add, Nat.mul_one]
    omega
theorem nsts_of {n : Nat} : ∀ xs : List D, (∀ x ∈ xs, nst n x = true) → nsts n xs = true
  | [], _ => by simp [nsts]
  | x :: xs, h => by
    simp only [nsts, Bool.and_eq_true]
    exact ⟨h x List.mem_cons_self, nsts_of xs fun y hy => h y (List.mem_cons_of_mem _ hy)⟩
theorem smls_of : ∀ xs : List D, (∀ x ∈ xs, sml x = true) → smls xs = true
  | [], _ => by simp [smls]
  | x :: xs, h => by
    simp only [smls, Bool.and_eq_true]
    exact ⟨h x List.mem_cons_self, smls_of xs fun y hy => h y (List.mem_cons_of_mem _ hy)⟩
end DL

/-! The text of data tells unlike data apart. -/
namespace DL
open PySem PySem.Spec PyProof.Rows L2
def i10 (i : Int) : List Nat := (Str.ofString (toString i)).cps.toList
def sep : List D → List Nat
  | [] => []
  | _ :: _ => [44, 32]
def clo : List D → List Nat
  | [_] => [44, 41]
  | _ => [41]
mutual
def sl : D → List Nat
  | .non => [78, 111, 110, 101]
  | .bl b => if b then [84, 114, 117, 101] else [70, 97, 108, 115, 101]
  | .int i => i10 i
  | .str s => 39 :: (s.cps.toList ++ [39])
  | .tup xs => 40 :: (sls xs ++ clo xs)
  | .lst xs => 91 :: (sls xs ++ [93])
  | _ => []
def sls : List D → List Nat
  | [] => []
  | x :: xs => sl x ++ (sep xs ++ sls xs)
end
def okc (c : Nat) : Bool := decide (32 ≤ c ∧ c ≤ 126 ∧ c ≠ 39 ∧ c ≠ 92)
mutual
/-- plain data with plain texts, nested at most n deep -/
def nt : Nat → D → Bool
  | _, .non => true
  | _, .bl _ => true
  | _, .int i => decide (i.natAbs < 10 ^ 40)
  | _, .str s => s.cps.toList.all okc
  | n + 1, .tup xs => nts n xs
  | n + 1, .lst xs => nts n xs
  | _, _ => false
def nts : Nat → List D → Bool
  | _, [] => true
  | n, x :: xs => nt n x && nts n xs
end
/-! ### ints -/
theorem i10_sign {i : Int} {c : Nat} (h : c ∈ i10 i) : c = 45 ∨ (48 ≤ c ∧ c ≤ 57) := by
  rcases Classical.em (c ≠ 45 ∧ (c < 48 ∨ 57 < c)) with hk | hk
  · exact absurd h (int_text_free' c hk i)
  · omega
theorem char_inj : ∀ {as bs : List Char}, as.map Char.toNat = bs.map Char.toNat → as = bs
  | [], [], _ => rfl
  | [], _ :: _, h => by simp at h
  | _ :: _, [], h => by simp at h
  | a :: as, b :: bs, h => by
    simp only [List.map_cons, List.cons.injEq] at h
    rw [char_inj h.2, Char.toNat_inj.mp h.1]
theorem nat_repr_inj {m n : Nat} (h : Nat.repr m = Nat.repr n) : m = n := by
  have h2 : (Nat.repr m).toList = (Nat.repr n).toList := by rw [h]
  rw [Nat.toList_repr, Nat.toList_repr] at h2
  have h3 := congrArg (fun l => Nat.ofDigitChars 10 l 0) h2
  simp only [Nat.ofDigitChars_toDigits (show 1 < 10 by decide) (show 10 ≤ 10 by decide)] at h3
  exact h3
theorem nat_repr_nodash (n : Nat) : '-' ∉ (Nat.repr n).toList := by
  intro h
  rw [Nat.toList_repr] at h
  have := Nat.isDigit_of_mem_toDigits (by decide) (by decide) h
  exact absurd this (by decide)
theorem int_repr_inj {i j : Int} (h : toString i = toString j) : i = j := by
  rw [Int.toString_eq_repr, Int.toString_eq_repr, Int.repr_eq_if, Int.repr_eq_if] at h
  split at h <;> split at h
  · have := nat_repr_inj h; omega
  · exfalso
    have h2 := congrArg String.toList h
    rw [String.toList_append] at h2
    exact nat_repr_nodash i.toNat (by rw [h2]; simp)
  · exfalso
    have h2 := congrArg String.toList h
    rw [String.toList_append] at h2
    exact nat_repr_nodash j.toNat (by rw [← h2]; simp)
  · have h2 := congrArg String.toList h
    rw [String.toList_append, String.toList_append] at h2
    have h3 := List.append_cancel_left h2
    have := nat_repr_inj (String.toList_inj.mp h3)
    omega
theorem i10_inj {i j : Int} (h : i10 i = i10 j) : i = j := by
  unfold i10 at h
  rw [signs_ofString, signs_ofString] at h
  exact int_repr_inj (String.toList_inj.mp (char_inj h))
theorem i10_ne (i : Int) : i10 i ≠ [] := by
  intro h
  unfold i10 at h
  rw [signs_ofString] at h
  have h2 : (toString i).toList = [] := by simpa using h
  rw [Int.toString_eq_repr, Int.repr_eq_if] at h2
  split at h2
  · rw [Nat.toList_repr] at h2
    exact Nat.toDigits_ne_nil h2
  · rw [String.toList_append] at h2
    simp at h2
/-- what may stand behind an item -/
def En (r : List Nat) : Prop := r = [] ∨ ∃ c t, r = c :: t ∧ (c = 41 ∨ c = 93 ∨ c = 44)
theorem cut_eq {p : Nat → Prop} : ∀ {a b r s : List Nat}, (∀ c ∈ a, p c) → (∀ c ∈ b, p c) → (∀ c t, r = c :: t → ¬ p c) → (∀ c t, s = c :: t → ¬ p c) → a ++ r = b ++ s → a = b ∧ r = s
  | [], [], _, _, _, _, _, _, h => ⟨rfl, h⟩
  | [], b :: bs, r, s, _, hb, hr, _, h => absurd (hb b List.mem_cons_self) (hr b (bs ++ s) h)
  | a :: as, [], r, s, ha, _, _, hs, h => absurd (ha a List.mem_cons_self) (hs a (as ++ r) h.symm)
  | a :: as, b :: bs, r, s, ha, hb, hr, hs, h => by
    simp only [List.cons_append, List.cons.injEq] at h
    obtain ⟨h1, h2⟩ := cut_eq (fun c hc => ha c (List.mem_cons_of_mem _ hc)) (fun c hc => hb c (List.mem_cons_of_mem _ hc)) hr hs h.2
    exact ⟨by rw [h.1, h1], h2⟩
def dig (c : Nat) : Prop := c = 45 ∨ (48 ≤ c ∧ c ≤ 57)
theorem En.nodig {r : List Nat} (h : En r) : ∀ c t, r = c :: t → ¬ dig c := by
  rintro c t rfl
  rcases h with h | ⟨c', t', h, hc⟩
  · cases h
  · simp only [List.cons.injEq] at h
    unfold dig
    omega
/-- the first sign tells the kind -/
def fst (d : D) : Nat → Prop := match d with
  | .non => fun c => c = 78
  | .bl true => fun c => c = 84
  | .bl false => fun c => c = 70
  | .int _ => dig
  | .str _ => fun c => c = 39
  | .tup _ => fun c => c = 40
  | .lst _ => fun c => c = 91
  | _ => fun _ => False
theorem sl_fst {n : Nat} : ∀ {d : D}, nt n d = true → ∃ c t, sl d = c :: t ∧ fst d c
  | .non, _ => ⟨_, _, by simp only [sl]; exact ⟨rfl, rfl⟩⟩
  | .bl true, _ => ⟨_, _, by simp only [sl, if_true]; exact ⟨rfl, rfl⟩⟩
  | .bl false, _ => ⟨_, _, by simp only [sl]; exact ⟨rfl, rfl⟩⟩
  | .int i, _ => by
    simp only [sl]
    cases e : i10 i with
    | nil => exact absurd e (i10_ne i)
    | cons c t => exact ⟨c, t, rfl, i10_sign (by rw [e]; exact List.mem_cons_self)⟩
  | .str s, _ => ⟨_, _, by simp only [sl]; exact ⟨rfl, rfl⟩⟩
  | .tup xs, _ => ⟨_, _, by simp only [sl]; exact ⟨rfl, rfl⟩⟩
  | .lst xs, _ => ⟨_, _, by simp only [sl]; exact ⟨rfl, rfl⟩⟩
  | .scr _, h => by cases n <;> simp [nt] at h
  | .ref _, h => by cases n <;> simp [nt] at h
  | .ty _, h => by cases n <;> simp [nt] at h
  | .dk _ _, h => by cases n <;> simp [nt] at h
theorem fst_sep {d : D} {c : Nat} (h : fst d c) : c ≠ 41 ∧ c ≠ 93 ∧ c ≠ 44 ∧ c ≠ 32 := by
  unfold fst at h
  split at h <;> first | exact h.elim | (unfold dig at h; omega) | omega
/-- what may stand behind the items of a tuple or a list -/
def Ec (r : List Nat) : Prop := ∃ t, r = 41 :: t ∨ r = 93 :: t ∨ r = 44 :: 41 :: t
theorem Ec.en {r : List Nat} (h : Ec r) : En r := by
  obtain ⟨t, h⟩ := h
  rcases h with rfl | rfl | rfl
  · exact .inr ⟨_, _, rfl, by omega⟩
  · exact .inr ⟨_, _, rfl, by omega⟩
  · exact .inr ⟨_, _, rfl, by omega⟩
theorem Ec.sep {r t : List Nat} (h : Ec r) (e : r = 44 :: 32 :: t) : False := by
  obtain ⟨u, h⟩ := h
  rcases h with h | h | h <;> (rw [h] at e; simp at e)
theorem clo_ec (xs : List D) (r : List Nat) : Ec (clo xs ++ r) := by
  unfold clo
  split
  · exact ⟨r, .inr (.inr rfl)⟩
  · exact ⟨r, .inl rfl⟩
theorem okc_q {s : Str} (h : s.cps.toList.all okc = true) : ∀ c ∈ s.cps.toList, c ≠ 39 := fun c hc => by
  have := List.all_eq_true.mp h c hc
  simp only [okc, decide_eq_true_eq] at this
  exact this.2.2.1
mutual
theorem sl_inj : ∀ (n m : Nat) (d e : D) (r s : List Nat), nt n d = true → nt m e = true → En r → En s → sl d ++ r = sl e ++ s → d = e ∧ r = s
  | n, m, .non, e, r, s, hd, he, hr, hs, h => by
    obtain ⟨c, t, e1, f1⟩ := sl_fst he
    simp only [sl, e1, List.cons_append, List.cons.injEq] at h
    obtain ⟨rfl, h⟩ := h
    cases e <;> simp only [fst, dig] at f1 <;> first | omega | exact f1.elim | skip
    · simp only [sl, List.cons.injEq] at e1
      rw [← e1.2] at h
      simpa using h
    · rename_i b; cases b <;> simp at f1
  | n, m, .bl b, e, r, s, hd, he, hr, hs, h => by
    obtain ⟨c, t, e1, f1⟩ := sl_fst he
    cases b
    all_goals
      simp only [sl, e1, List.cons_append, List.cons.injEq, if_true, Bool.false_eq_true, if_false] at h
      obtain ⟨rfl, h⟩ := h
      cases e <;> simp only [fst, dig] at f1 <;> first | omega | exact f1.elim | skip
      rename_i b; cases b <;> simp at f1
      simp only [sl, List.cons.injEq, if_true, Bool.false_eq_true, if_false] at e1
      rw [← e1.2] at h
      simpa using h
  | n, m, .int i, e, r, s, hd, he, hr, hs, h => by
    obtain ⟨c, t, e1, f1⟩ := sl_fst (d := .int i) hd
    cases e with
    | int j =>
      simp only [sl] at h
      obtain ⟨h1, h2⟩ := cut_eq (p := dig) (fun c hc => i10_sign hc) (fun c hc => i10_sign hc) hr.nodig hs.nodig h
      exact ⟨by rw [i10_inj h1], h2⟩
    | _ =>
      exfalso
      obtain ⟨c', t', e2, f2⟩ := sl_fst he
      rw [e1, e2, List.cons_append, List.cons_append] at h
      simp only [List.cons.injEq] at h
      obtain ⟨rfl, _⟩ := h
      simp only [fst, dig] at f1 f2
      first | omega | exact f2.elim | (split at f2 <;> omega) | skip
      try (rename_i b _; cases b <;> simp at f2 <;> omega)
  | n, m, .str x, e, r, s, hd, he, hr, hs, h => by
    obtain ⟨c, t, e1, f1⟩ := sl_fst he
    have h0 := h
    simp only [sl, e1, List.cons_append, List.cons.injEq] at h
    obtain ⟨rfl, h⟩ := h
    cases e <;> simp only [fst, dig] at f1 <;> first | omega | exact f1.elim | skip
    · rename_i b; cases b <;> simp at f1
    · rename_i y
      simp only [sl, List.cons_append, List.cons.injEq, true_and, List.append_assoc, List.nil_append] at h0
      have q1 : x.cps.toList.all okc = true := by cases n <;> simpa only [nt] using hd
      have q2 : y.cps.toList.all okc = true := by cases m <;> simpa only [nt] using he
      obtain ⟨h1, h2⟩ := cut_eq (p := fun c => c ≠ 39) (okc_q q1) (okc_q q2) (by rintro c t h; simp only [List.singleton_append, List.cons.injEq] at h; simp [← h.1]) (by rintro c t h; simp only [List.singleton_append, List.cons.injEq] at h; simp [← h.1]) h0
      refine ⟨?_, by simpa using h2⟩
      obtain ⟨x⟩ := x
      obtain ⟨y⟩ := y
      have : x = y := by simpa using h1
      rw [this]
  | n, m, .tup xs, e, r, s, hd, he, hr, hs, h => by
    obtain ⟨c, t, e1, f1⟩ := sl_fst he
    have h0 := h
    simp only [sl, e1, List.cons_append, List.cons.injEq] at h
    obtain ⟨rfl, h⟩ := h
    cases e <;> simp only [fst, dig] at f1 <;> first | omega | exact f1.elim | skip
    · rename_i b; cases b <;> simp at f1
    · rename_i ys
      match n, m, hd, he with
      | n + 1, m + 1, hd, he =>
        simp only [nt] at hd he
        simp only [sl, List.cons_append, List.cons.injEq, true_and, List.append_assoc] at h0
        obtain ⟨rfl, h2⟩ := sls_inj n m xs ys _ _ hd he (clo_ec _ _) (clo_ec _ _) h0
        exact ⟨rfl, List.append_cancel_left h2⟩
      | 0, _, hd, _ => simp [nt] at hd
      | _ + 1, 0, _, he => simp [nt] at he
  | n, m, .lst xs, e, r, s, hd, he, hr, hs, h => by
    obtain ⟨c, t, e1, f1⟩ := sl_fst he
    have h0 := h
    simp only [sl, e1, List.cons_append, List.cons.injEq] at h
    obtain ⟨rfl, h⟩ := h
    cases e <;> simp only [fst, dig] at f1 <;> first | omega | exact f1.elim | skip
    · rename_i b; cases b <;> simp at f1
    · rename_i ys
      match n, m, hd, he with
      | n + 1, m + 1, hd, he =>
        simp only [nt] at hd he
        simp only [sl, List.cons_append, List.cons.injEq, true_and, List.append_assoc] at h0
        obtain ⟨rfl, h2⟩ := sls_inj n m xs ys _ _ hd he ⟨r, .inr (.inl rfl)⟩ ⟨s, .inr (.inl rfl)⟩ h0
        exact ⟨rfl, by simpa using h2⟩
      | 0, _, hd, _ => simp [nt] at hd
      | _ + 1, 0, _, he => simp [nt] at he
  | n, _, .scr _, _, _, _, h, _, _, _, _ => by cases n <;> simp [nt] at h
  | n, _, .ref _, _, _, _, h, _, _, _, _ => by cases n <;> simp [nt] at h
  | n, _, .ty _, _, _, _, h, _, _, _, _ => by cases n <;> simp [nt] at h
  | n, _, .dk _ _, _, _, _, h, _, _, _, _ => by cases n <;> simp [nt] at h
theorem sls_inj : ∀ (n m : Nat) (xs ys : List D) (r s : List Nat), nts n xs = true → nts m ys = true → Ec r → Ec s → sls xs ++ r = sls ys ++ s → xs = ys ∧ r = s
  | n, m, [], [], r, s, _, _, _, _, h => ⟨rfl, by simpa only [sls, List.nil_append] using h⟩
  | n, m, [], y :: ys, r, s, _, hy, hr, _, h => by
    exfalso
    simp only [nts, Bool.and_eq_true] at hy
    obtain ⟨c, t, e1, f1⟩ := sl_fst hy.1
    have f2 := fst_sep f1
    simp only [sls, e1, List.nil_append, List.cons_append] at h
    obtain ⟨u, hr⟩ := hr
    rcases hr with rfl | rfl | rfl <;> (simp only [List.cons.injEq] at h; omega)
  | n, m, x :: xs, [], r, s, hx, _, _, hs, h => by
    exfalso
    simp only [nts, Bool.and_eq_true] at hx
    obtain ⟨c, t, e1, f1⟩ := sl_fst hx.1
    have f2 := fst_sep f1
    simp only [sls, e1, List.nil_append, List.cons_append] at h
    obtain ⟨u, hs⟩ := hs
    rcases hs with rfl | rfl | rfl <;> (simp only [List.cons.injEq] at h; omega)
  | n, m, x :: xs, y :: ys, r, s, hx, hy, hr, hs, h => by
    simp only [nts, Bool.and_eq_true] at hx hy
    simp only [sls, List.append_assoc] at h
    have en : ∀ (zs : List D) (u : List Nat), Ec u → En (sep zs ++ (sls zs ++ u)) := fun zs u hu => by
      cases zs with
      | nil => simpa only [sep, sls, List.nil_append] using hu.en
      | cons z zs => exact .inr ⟨_, _, rfl, by omega⟩
    obtain ⟨rfl, h2⟩ := sl_inj n m x y _ _ hx.1 hy.1 (en xs r hr) (en ys s hs) h
    cases xs with
    | nil =>
      cases ys with
      | nil => exact ⟨rfl, by simpa only [sep, sls, List.nil_append] using h2⟩
      | cons y' ys =>
        exfalso
        simp only [sep, sls, List.nil_append, List.cons_append] at h2
        exact hr.sep h2
    | cons x' xs =>
      cases ys with
      | nil =>
        exfalso
        simp only [sep, sls, List.nil_append, List.cons_append] at h2
        exact hs.sep h2.symm
      | cons y' ys =>
        simp only [sep, List.cons_append, List.nil_append, List.cons.injEq, true_and] at h2
        obtain ⟨h3, h4⟩ := sls_inj n m (x' :: xs) (y' :: ys) r s hx.2 hy.2 hr hs h2
        exact ⟨by rw [h3], h4⟩
end
end DL

/-! What the text of plain data is; its length. -/
namespace DL
open PySem PySem.Spec PyProof.Rows L2
theorem print_all : ∀ k : Fin 127, 32 ≤ k.val → Unicode.isPrintable k.val = true := by decide +kernel
theorem rchar_ok {c : Nat} (h : okc c = true) : Builtin.Str.reprChar 39 c = [c] := by
  simp only [okc, decide_eq_true_eq] at h
  have hp := print_all ⟨c, by omega⟩ h.1
  have h1 : (c == 39 || c == 92) = false := by simp [h.2.2.1, h.2.2.2]
  unfold Builtin.Str.reprChar
  simp only [h1, hp, if_true, Bool.false_eq_true, if_false]
  have h2 : (c == 10) = false := by simp; omega
  have h3 : (c == 13) = false := by simp; omega
  have h4 : (c == 9) = false := by simp; omega
  simp [h2, h3, h4]
theorem fold_ok : ∀ (l : List Nat) (acc : Array Nat), l.all okc = true → (l.foldl (fun out c => out ++ (Builtin.Str.reprChar 39 c).toArray) acc).toList = acc.toList ++ l
  | [], acc, _ => by simp
  | c :: l, acc, h => by
    simp only [List.all_cons, Bool.and_eq_true] at h
    simp only [List.foldl_cons]
    rw [fold_ok l _ h.2, rchar_ok h.1]
    simp
theorem rtext_ok {s : Str} (h : s.cps.toList.all okc = true) : (reprText s).cps.toList = 39 :: (s.cps.toList ++ [39]) := by
  have hq : reprQuote s = 39 := by
    unfold reprQuote
    have : s.cps.contains 39 = false := by
      rw [← Array.contains_toList]
      simp only [List.contains_eq_mem, decide_eq_false_iff_not]
      exact fun hm => okc_q h 39 hm rfl
    rw [this]; rfl
  unfold reprText
  rw [hq]
  show ((s.cps.foldl (fun out c => out ++ (Builtin.Str.reprChar 39 c).toArray) #[39]).push 39).toList = _
  rw [Array.toList_push, ← Array.foldl_toList, fold_ok _ _ h]
  simp
theorem cps_of (s : String) (l : List Nat) (h : (Str.ofString s).cps.toList = l) : (Str.ofString s).cps.toList = l := h
theorem c_op : ((("(" : String) : Str)).cps.toList = [40] := by decide
theorem c_lb : ((("[" : String) : Str)).cps.toList = [91] := by decide
theorem c_rb : ((("]" : String) : Str)).cps.toList = [93] := by decide
theorem c_cp : (((")" : String) : Str)).cps.toList = [41] := by decide
theorem c_ccp : (((",)" : String) : Str)).cps.toList = [44, 41] := by decide
theorem c_cs : (((", " : String) : Str)).cps.toList = [44, 32] := by decide
theorem c_em : ((("" : String) : Str)).cps.toList = [] := by decide
mutual
theorem shown_sl : ∀ (n : Nat) (d : D), nt n d = true → (pyT d).shown.cps.toList = sl d
  | _, .non, _ => by simp only [pyT, PyData.shown, sl]; decide
  | _, .bl true, _ => by simp only [pyT, PyData.shown, sl, if_true]; decide
  | _, .bl false, _ => by simp only [pyT, PyData.shown, sl]; decide
  | _, .int i, _ => by simp only [pyT, PyData.shown, sl]; rfl
  | n, .str s, h => by
    have h' : s.cps.toList.all okc = true := by cases n <;> simpa only [nt] using h
    simp only [pyT, PyData.shown, sl]
    exact rtext_ok h'
  | n + 1, .tup xs, h => by
    simp only [nt] at h
    simp only [pyT, PyData.shown, sl]
    have e := shown_sls n xs h
    unfold tupleText
    rw [cps_toList_append, cps_toList_append, e, c_op]
    have hl : (PyData.shownAll (pyTs xs)).length = xs.length := by
      rw [pyTs_map]
      generalize xs = l
      induction l with
      | nil => rfl
      | cons a l ih => simp [PyData.shownAll, ih]
    rw [hl]
    match xs with
    | [] => simp only [List.length_nil, clo]; exact congrArg (fun z => [40] ++ sls [] ++ z) c_cp
    | [x] => simp only [List.length_cons, List.length_nil, clo]; exact congrArg (fun z => [40] ++ sls [x] ++ z) c_ccp
    | x :: y :: r =>
      have : ((x :: y :: r).length == 1) = false := by simp
      rw [this]
      exact congrArg (fun z => [40] ++ sls (x :: y :: r) ++ z) c_cp
  | n + 1, .lst xs, h => by
    simp only [nt] at h
    simp only [pyT, PyData.shown, sl]
    have e := shown_sls n xs h
    unfold listText
    rw [cps_toList_append, c_rb]
    match xs with
    | [] => simp only [pyTs, PyData.shownAll, textFrom, c_lb, sls]; rfl
    | x :: r =>
      simp only [pyTs, PyData.shownAll] at e ⊢
      show (textFrom 1 _ _).cps.toList ++ _ = _
      rw [textFrom_pos _ _ _ _ (by decide), cps_toList_append, cps_toList_append, e, c_lb]
      simp [c_em]
  | 0, .tup _, h => by simp [nt] at h
  | 0, .lst _, h => by simp [nt] at h
  | n, .scr _, h => by cases n <;> simp [nt] at h
  | n, .ref _, h => by cases n <;> simp [nt] at h
  | n, .ty _, h => by cases n <;> simp [nt] at h
  | n, .dk _ _, h => by cases n <;> simp [nt] at h
theorem shown_sls : ∀ (n : Nat) (xs : List D), nts n xs = true → (Str.join ", " (PyData.shownAll (pyTs xs))).cps.toList = sls xs
  | _, [], _ => by simp only [pyTs, PyData.shownAll, sls]; rfl
  | n, [x], h => by
    simp only [nts, Bool.and_eq_true] at h
    simp only [pyTs, PyData.shownAll, sls, sep, List.append_nil]
    exact shown_sl n x h.1
  | n, x :: y :: r, h => by
    simp only [nts, Bool.and_eq_true] at h
    have e1 := shown_sl n x h.1
    have e2 := shown_sls n (y :: r) (by simp only [nts, Bool.and_eq_true]; exact h.2)
    simp only [pyTs, PyData.shownAll] at e2 ⊢
    rw [join_cons_cons, cps_toList_append, cps_toList_append, e1, e2, c_cs]
    simp [sls, sep]
end
/-- the text of plain data -/
def SH (d : D) : Str := (pyT d).shown
theorem SH_inj {n m : Nat} {d e : D} (hd : nt n d = true) (he : nt m e = true) (h : SH d = SH e) : d = e := by
  have h1 : sl d = sl e := by rw [← shown_sl n d hd, ← shown_sl m e he]; exact congrArg (fun s => s.cps.toList) h
  exact (sl_inj n m d e [] [] hd he (.inl rfl) (.inl rfl) (by rw [h1])).1
theorem SH_len {n : Nat} {d : D} (hd : nt n d = true) : (SH d).length = (sl d).length := by
  rw [← shown_sl n d hd]; exact (Array.length_toList).symm
mutual
/-- a bound of the text's length -/
def wz : D → Nat
  | .int _ => 41
  | .tup xs => 3 + wzs xs
  | .lst xs => 3 + wzs xs
  | .str s => s.length + 2
  | _ => 5
def wzs : List D → Nat
  | [] => 0
  | x :: xs => wz x + 2 + wzs xs
end
mutual
theorem sl_wz : ∀ (n : Nat) (d : D), nt n d = true → (sl d).length ≤ wz d
  | _, .non, _ => by simp [sl, wz]
  | _, .bl b, _ => by cases b <;> simp [sl, wz]
  | n, .int i, h => by
    have h' : i.natAbs < 10 ^ 40 := by cases n <;> simpa only [nt, decide_eq_true_eq] using h
    simp only [sl, wz, i10]
    have := int_text_length_le10 (a := i) (k := 40) (by decide) h'
    exact Nat.le_trans (Nat.le_of_eq (by
      show (Str.ofString (toString i)).cps.toList.length = (toString i).length
      rw [Array.length_toList]
      exact PySem.ofString_length _)) this
  | _, .str s, _ => by simp [sl, wz]; exact Nat.le_refl _
  | n + 1, .tup xs, h => by
    simp only [nt] at h
    have := sls_wz n xs h
    have hc : (clo xs).length ≤ 2 := by unfold clo; split <;> simp
    simp only [sl, wz, List.length_cons, List.length_append]
    omega
  | n + 1, .lst xs, h => by
    simp only [nt] at h
    have := sls_wz n xs h
    simp only [sl, wz, List.length_cons, List.length_append, List.length_nil]
    omega
  | 0, .tup _, h => by simp [nt] at h
  | 0, .lst _, h => by simp [nt] at h
  | n, .scr _, h => by cases n <;> simp [nt] at h
  | n, .ref _, h => by cases n <;> simp [nt] at h
  | n, .ty _, h => by cases n <;> simp [nt] at h
  | n, .dk _ _, h => by cases n <;> simp [nt] at h
theorem sls_wz : ∀ (n : Nat) (xs : List D), nts n xs = true → (sls xs).length ≤ wzs xs
  | _, [], _ => by simp [sls, wzs]
  | n, x :: xs, h => by
    simp only [nts, Bool.and_eq_true] at h
    have h1 := sl_wz n x h.1
    have h2 := sls_wz n xs h.2
    have hs : (sep xs).length ≤ 2 := by cases xs <;> simp [sep]
    simp only [sls, wzs, List.length_append]
    omega
end
mutual
theorem nt_shp : ∀ (n : Nat) (d : D), nt n d = true → shp n d = true
  | _, .non, _ => by simp [shp]
  | _, .bl b, _ => by simp [shp]
  | _, .int i, _ => by simp [shp]
  | n, .str s, h => by
    have h' : s.cps.toList.all okc = true := by cases n <;> simpa only [nt] using h
    have : PyData.strOk s = true := by
      unfold PyData.strOk
      rw [← Array.all_toList]
      refine List.all_eq_true.mpr fun c hc => ?_
      have := List.all_eq_true.mp h' c hc
      simp only [okc, decide_eq_true_eq] at this
      simp; omega
    cases n <;> simpa only [shp] using this
  | n + 1, .tup xs, h => by
    simp only [nt] at h
    simp only [shp]
    exact nts_shp n xs h
  | n + 1, .lst xs, h => by
    simp only [nt] at h
    simp only [shp]
    exact nts_shp n xs h
  | 0, .tup _, h => by simp [nt] at h
  | 0, .lst _, h => by simp [nt] at h
  | n, .scr _, h => by cases n <;> simp [nt] at h
  | n, .ref _, h => by cases n <;> simp [nt] at h
  | n, .ty _, h => by cases n <;> simp [nt] at h
  | n, .dk _ _, h => by cases n <;> simp [nt] at h
theorem nts_shp : ∀ (n : Nat) (xs : List D), nts n xs = true → xs.all (shp n) = true
  | _, [], _ => rfl
  | n, x :: xs, h => by
    simp only [nts, Bool.and_eq_true] at h
    simp only [List.all_cons, Bool.and_eq_true]
    exact ⟨nt_shp n x h.1, nts_shp n xs h.2⟩
end
mutual
theorem nt_show : ∀ (n : Nat) (d : D), nt n d = true → (pyT d).showable = true
  | _, .non, _ => by simp [pyT, PyData.showable]
  | _, .bl b, _ => by simp [pyT, PyData.showable]
  | n, .int i, h => by
    have h' : i.natAbs < 10 ^ 40 := by cases n <;> simpa only [nt, decide_eq_true_eq] using h
    simp only [pyT, PyData.showable, decide_eq_true_eq]
    by_cases h0 : i.natAbs = 0
    · rw [h0]; decide
    · exact (Nat.log2_lt h0).mpr (Nat.lt_trans h' (by decide +kernel))
  | _, .str s, _ => by simp [pyT, PyData.showable]
  | n + 1, .tup xs, h => by
    simp only [nt] at h
    simp only [pyT, PyData.showable]
    exact nts_show n xs h
  | n + 1, .lst xs, h => by
    simp only [nt] at h
    simp only [pyT, PyData.showable]
    exact nts_show n xs h
  | 0, .tup _, h => by simp [nt] at h
  | 0, .lst _, h => by simp [nt] at h
  | n, .scr _, h => by cases n <;> simp [nt] at h
  | n, .ref _, h => by cases n <;> simp [nt] at h
  | n, .ty _, h => by cases n <;> simp [nt] at h
  | n, .dk _ _, h => by cases n <;> simp [nt] at h
theorem nts_show : ∀ (n : Nat) (xs : List D), nts n xs = true → PyData.showableAll (pyTs xs) = true
  | _, [], _ => by simp [pyTs, PyData.showableAll]
  | n, x :: xs, h => by
    simp only [nts, Bool.and_eq_true] at h
    simp only [pyTs, PyData.showableAll, Bool.and_eq_true]
    exact ⟨nt_show n x h.1, nts_show n xs h.2⟩
end
/-- the text of plain data is what repr gives -/
theorem repr_sh {n : Nat} {d : D} {M : Mp} (hn : n ≤ 64) (h : nt n d = true) (hw : wz d ≤ 16777000) : gRepr [d] M = some (.str (SH d)) := by
  have a1 := shp_mono hn (nt_shp _ _ h)
  have a2 := nt_show _ _ h
  have a3 : (pyT d).shown.length ≤ sizeLine := by
    have := SH_len h
    have := sl_wz n d h
    unfold SH at *
    exact Nat.le_trans (by omega) (show 16777000 ≤ sizeLine by decide)
  have a4 : rprOk (pyT d) = true := by simp only [rprOk, a2, a3, decide_true, Bool.and_self]
  cases d with
  | non => rfl
  | bl b => cases b <;> rfl
  | int i =>
    have h' : i.natAbs.log2 < 1920 := by simpa only [pyT, PyData.showable, decide_eq_true_eq] using a2
    simp only [gRepr, deref]
    rw [if_pos (by simpa using h')]
    simp only [SH, pyT, PyData.shown]
  | str s =>
    simp only [gRepr, deref]
    rw [if_pos (by simpa [pyT, PyData.shown] using a3)]
    simp only [SH, pyT, PyData.shown]
  | tup xs => simp only [gRepr, deref, a1, a4, Bool.and_self, if_true, SH]
  | lst xs => simp only [gRepr, deref, a1, a4, Bool.and_self, if_true, SH]
  | scr _ => cases n <;> simp [nt] at h
  | ref _ => cases n <;> simp [nt] at h
  | ty _ => cases n <;> simp [nt] at h
  | dk _ _ => cases n <;> simp [nt] at h
mutual
theorem sl_asc : ∀ (n : Nat) (d : D), nt n d = true → ∀ c ∈ sl d, c ≤ 126
  | _, .non, _ => by simp [sl]
  | _, .bl b, _ => by cases b <;> simp [sl]
  | _, .int i, _ => by
    simp only [sl]
    intro c hc
    have := i10_sign hc
    omega
  | n, .str s, h => by
    have h' : s.cps.toList.all okc = true := by cases n <;> simpa only [nt] using h
    intro c hc
    simp only [sl, List.mem_cons, List.mem_append, List.not_mem_nil, or_false] at hc
    rcases hc with rfl | hc | rfl
    · omega
    · have := List.all_eq_true.mp h' c hc
      simp only [okc, decide_eq_true_eq] at this
      omega
    · omega
  | n + 1, .tup xs, h => by
    simp only [nt] at h
    intro c hc
    simp only [sl, List.mem_cons, List.mem_append] at hc
    rcases hc with rfl | hc | hc
    · omega
    · exact sls_asc n xs h c hc
    · unfold clo at hc
      split at hc <;> simp at hc <;> omega
  | n + 1, .lst xs, h => by
    simp only [nt] at h
    intro c hc
    simp only [sl, List.mem_cons, List.mem_append, List.not_mem_nil, or_false] at hc
    rcases hc with rfl | hc | rfl
    · omega
    · exact sls_asc n xs h c hc
    · omega
  | 0, .tup _, h => by simp [nt] at h
  | 0, .lst _, h => by simp [nt] at h
  | n, .scr _, h => by cases n <;> simp [nt] at h
  | n, .ref _, h => by cases n <;> simp [nt] at h
  | n, .ty _, h => by cases n <;> simp [nt] at h
  | n, .dk _ _, h => by cases n <;> simp [nt] at h
theorem sls_asc : ∀ (n : Nat) (xs : List D), nts n xs = true → ∀ c ∈ sls xs, c ≤ 126
  | _, [], _ => by simp [sls]
  | n, x :: xs, h => by
    simp only [nts, Bool.and_eq_true] at h
    intro c hc
    simp only [sls, List.mem_append] at hc
    rcases hc with hc | hc | hc
    · exact sl_asc n x h.1 c hc
    · cases xs <;> simp [sep] at hc
      omega
    · exact sls_asc n xs h.2 c hc
end
theorem SH_ok {n : Nat} {d : D} (h : nt n d = true) : PyData.strOk (SH d) = true := by
  unfold PyData.strOk
  rw [← Array.all_toList]
  refine List.all_eq_true.mpr fun c hc => ?_
  have e : (SH d).cps.toList = sl d := shown_sl n d h
  rw [e] at hc
  have := sl_asc n d h c hc
  simp; omega
/-- whether a text is among texts tells whether the data is among the data -/
theorem in_texts {n : Nat} {d : D} {es : List D} {M : Mp} (hd : nt n d = true) (he : ∀ e ∈ es, nt n e = true) : ∃ b, fIn (.str (SH d)) (.lst (es.map fun e => .str (SH e))) M = some (.bl b) ∧ (b = true ↔ d ∈ es) := by
  have h1 : shp 64 (.str (SH d)) = true := by simp only [shp]; exact SH_ok hd
  have h2 : (es.map fun e => D.str (SH e)).all (shp 63) = true := by
    simp only [List.all_map, List.all_eq_true]
    intro e hm
    simp only [Function.comp, shp]
    exact SH_ok (he e hm)
  refine ⟨(es.map fun e => D.str (SH e)).any fun z => deq z (.str (SH d)), ?_, ?_⟩
  · have e1 : items M (.lst (es.map fun e => D.str (SH e))) = some (es.map fun e => D.str (SH e)) := rfl
    simp only [fIn, e1, Option.bind_some, deref]
    exact if_pos ⟨h1, h2⟩
  · simp only [List.any_map, List.any_eq_true, Function.comp, deq, beq_iff_eq]
    constructor
    · rintro ⟨e, hm, h⟩
      rw [← SH_inj (he e hm) hd h]; exact hm
    · exact fun hm => ⟨d, hm, rfl⟩
theorem wzs_ints (l : List Int) : wzs (l.map D.int) = 43 * l.length := by
  induction l with
  | nil => rfl
  | cons a l ih => simp only [List.map_cons, wzs, wz, ih, List.length_cons]; omega
theorem nts_ints {n : Nat} {l : List Int} (h : ∀ x ∈ l, x.natAbs < 10 ^ 40) : nts n (l.map D.int) = true := by
  induction l with
  | nil => rfl
  | cons a l ih =>
    simp only [List.map_cons, nts, Bool.and_eq_true]
    exact ⟨by cases n <;> (simp only [nt]; exact decide_eq_true (h a List.mem_cons_self)), ih fun x hx => h x (List.mem_cons_of_mem _ hx)⟩
theorem deqs_ints : ∀ (xs ys : List Int), deqs (xs.map D.int) (ys.map D.int) = decide (xs = ys)
  | [], [] => by simp [deqs]
  | [], y :: ys => by simp [deqs]
  | x :: xs, [] => by simp [deqs]
  | x :: xs, y :: ys => by
    simp only [List.map_cons, deqs, deq, deqs_ints xs ys]
    rw [Bool.eq_iff_iff]
    simp
end DL

/-! Raise and try over data. -/
namespace DL
open PySem PySem.Spec PyProof.Rows L2
/-! ### raise X() -/
/-- an own error class of the module (over ValueError, no __init__ of its own) -/
structure ExcAt (K : PySem.W.Frag) (mg : Str → Option Value) (x : Str) : Prop where
  mgC : mg x = some (.ref (He.ga K x))
  ex : PySem.W.excIn K (He.ga K x) He.veBase "ValueError.__new__" = true
  kp : PySem.W.keepIn K (.ref (He.ga K x)) = true
  sub : PySem.W.subIn K (.ref (He.ga K x)) (.type "BaseException") = some true
  ty : PySem.W.typeIn K (.ref (He.ga K x)) = some (.type "type")
theorem excAt_of {K : PySem.W.Frag} {h : Heap} {mg : Str → Option Value} {x : Str} (X : K.In h) (G : h.Ns mainGlobals mg) (g : (He.Fa.glo x).ok K = true) (e : (He.Fa.exc x).ok K = true) : ExcAt K mg x :=
  let ⟨a, b, c, d⟩ := He.exc_ok e; ⟨He.glo_ok X G g, a, b, c, d⟩
def cl (K : PySem.W.Frag) (x : Str) : Value := .ref (He.ga K x)
def sRaise (c : Value) : DS := fun En τ M => En.ex c [] τ M
@[simp] theorem z_raise {c : Value} {En : DEnds} {τ : Sd} {M : Mp} : sRaise c En τ M = En.ex c [] τ M := of_eq_true (eq_self _)
section
variable {C : DC} {x : Str} {p pos pos' : Pos}
theorem pmk0 {X : Cx} (Z : ExcAt X.K X.mg x) (hg : Gl X x) (hdb : (x == ("__debug__" : Str)) = false) : PMk X (.Call (.Name x p) [] [] pos) (fun _ H Q => Q (cl X.K x) none H) := by
  intro pins s σ H Q I h
  refine wpAny_Call_Name_kw (ld_glob I hg Z.mgC ?_ hdb)
  refine PySem.W.callWith_K0 I.kIn Z.kp ?_
  obtain ⟨bm, N, nm, qn, bs, hdct, sn, sub, ab, col, dd, k0, k1, k2, k3, k5, mN, hC, hN, hni, T⟩ := exc_obj I.kIn Z.ex
  exact wpAny_call_exc_subT F.excBase_ValueError T hC hN hni (fun h' e hm => mk_of I hm (raises_own Z.sub Z.ty) h (I.hok.gone hm.new)) (Nat.zero_le _)
theorem ds_raise0 (Z : ExcAt C.X.K C.X.mg x) (hc : C.X.calm = true := by rfl) (hg : Gl C.X x := by rfl) (hdb : (x == ("__debug__" : Str)) = false := by decide) : DPS C (.Raise (some (.Call (.Name x p) [] [] pos)) none pos') (sRaise (cl C.X.K x)) :=
  .of (fun a b τ M h q => h.ex _ _ τ M q) (ps_raise hc C.tk (pmk0 Z hg hdb)) fun H M τ σ D er sr q => ⟨τ, M, [], er, ⟨sr.keep, sr.abs, sr.tab⟩, .inl ⟨rfl, rfl⟩, q⟩
end
/-! ### try -/
abbrev DW := Value → DFs → Sd → Mp → Prop
def LiftW (K : PySem.W.Frag) (T : List (Addr × Str)) (H0 : Hp) (M0 : Mp) (W : DW) : WX := fun cls od σ H => ∃ τ M fs, EnvR K H M τ σ ∧ (Keep H0 M0 H M ∧ Abs K H M ∧ LamX.Tabs T H) ∧ XDen K H M od fs ∧ W cls fs τ M
/-- the context of a try's body: the ground is the try's start -/
def trC (C : DC) (H : Hp) (M : Mp) (Wd : DW) (W : WX) (pn : List (Addr × Obj)) (xe : Value → Shared → Prop) (tk : Takes (C.X.tr pn xe) W) (po : PassesOwn (model C.X.prog C.X.w) C.X.A C.X.env xe)
    (hW : ∀ cls od σ H', LiftW C.X.K C.T H M Wd cls od σ H' → W cls od σ H') : DC where
  X := C.X.tr pn xe
  T := C.T
  H0 := H
  M0 := M
  W := Wd
  J := C.J
  Jk := C.Jk
  lv := C.lv
  dp := C.dp
  un := C.un
  gb := C.gb
  gd := C.gd
  nd := C.nd
  po := po
  tk := tk.imp hW
/-- the context of an except suite -/
def suC (C : DC) (H : Hp) (M : Mp) (a : Addr) (pn : List (Addr × Obj)) : DC where
  X := C.X.suite a pn
  T := C.T
  H0 := H
  M0 := M
  W := fun _ _ _ _ => False
  J := fun _ _ => True
  Jk := fun _ _ _ _ _ _ => trivial
  lv := C.lv
  dp := C.dp
  un := C.un
  gb := C.gb
  gd := C.gd
  nd := C.nd
  po := PassesOwn.never
  tk := fun _ _ z => by
    obtain ⟨_, _, _, _, _, _, _, _, _, _, _, _, _, _, _, _, _, _, _, _, _, _, no⟩ := z
    exact no.elim
section
variable {C : DC}
/-- clauses without a name: each its class and its suite -/
inductive DHds (C : DC) : List ExceptHandler → List (Value × DS) → Prop
  | nil : DHds C [] []
  | cons {x : Str} {c : Value} {ts : DS} {b₀ : Stmt} {suite : List Stmt} {np pos' : Pos} {hds : List ExceptHandler} {l : List (Value × DS)} (hc : Names C.X x c)
      (hsu : ∀ (H : Hp) (M : Mp) (a : Addr) (pn : List (Addr × Obj)), DPSs (suC C H M a pn) (b₀ :: suite) ts) (r : DHds C hds l) :
      DHds C (.ExceptHandler (some (.Name x np)) none (b₀ :: suite) pos' :: hds) ((c, ts) :: l)
/-- what becomes of an exception of the body -/
def catch_ (K : PySem.W.Frag) (En : DEnds) : List (Value × DS) → DW
  | [] => En.ex
  | (c, ts) :: r => fun cls fs τ M => ∃ b, PySem.W.exmOne K cls c = some b ∧ (b = true → ts { En with ex := fun _ _ _ _ => False } τ M) ∧ (b = false → catch_ K En r cls fs τ M)
def sTry (K : PySem.W.Frag) (tb : DS) (l : List (Value × DS)) : DS := fun En τ M => tb { En with ex := catch_ K En l } τ M
theorem DHds.mono {hds : List ExceptHandler} {l : List (Value × DS)} (h : DHds C hds l) : ∀ p ∈ l, MonoS p.2 := by
  induction h with
  | nil => exact fun _ h => nomatch h
  | cons hc hsu r ih =>
    intro p hp
    rcases List.mem_cons.mp hp with rfl | hp
    · exact (hsu (fun _ => none) (fun _ => none) 0 []).mono
    · exact ih p hp
theorem mono_catch {K : PySem.W.Frag} {a b : DEnds} (h : a.Le b) : ∀ {l : List (Value × DS)}, (∀ p ∈ l, MonoS p.2) → ∀ c fs τ M, catch_ K a l c fs τ M → catch_ K b l c fs τ M
  | [], _, c, fs, τ, M, q => h.ex c fs τ M q
  | (c', ts) :: r, hm, c, fs, τ, M, ⟨k, e, y, n⟩ => ⟨k, e, fun hk => hm _ List.mem_cons_self { a with ex := fun _ _ _ _ => False } { b with ex := fun _ _ _ _ => False } τ M ⟨h.nx, h.rt, h.bk, h.ct, fun _ _ _ _ z => z⟩ (y hk), fun hk => mono_catch h (fun p hp => hm p (List.mem_cons_of_mem _ hp)) c fs τ M (n hk)⟩
theorem monoS_try {K : PySem.W.Frag} {tb : DS} {l : List (Value × DS)} (m : MonoS tb) (hm : ∀ p ∈ l, MonoS p.2) : MonoS (sTry K tb l) := fun a b τ M h q => m { a with ex := catch_ K a l } { b with ex := catch_ K b l } τ M ⟨h.nx, h.rt, h.bk, h.ct, mono_catch h hm⟩ q
/-- a suite, told over the hand layer -/
def suT (K : PySem.W.Frag) (T : List (Addr × Str)) (ts : DS) : TS := fun D σ H => ∃ τ M, EnvR K H M τ σ ∧ Abs K H M ∧ LamX.Tabs T H ∧
  ts { nx := fun τ' M' => ∀ σ' H', EnvR K H' M' τ' σ' → GoK K T H M H' M' → D.nx σ' H', rt := fun d M' => ∀ v H', GoK K T H M H' M' → Den K H' M' d v → D.rt v H',
       bk := fun τ' M' => ∀ σ' H', EnvR K H' M' τ' σ' → GoK K T H M H' M' → D.bk σ' H', ct := fun τ' M' => ∀ σ' H', EnvR K H' M' τ' σ' → GoK K T H M H' M' → D.ct σ' H', ex := fun _ _ _ _ => False } τ M
def hOf (K : PySem.W.Frag) (T : List (Addr × Str)) (l : List (Value × DS)) : List (Value × (Addr → Value → Option Addr → TS)) := l.map fun p => (p.1, fun _ _ _ => suT K T p.2)
theorem DHds.ok {hds : List ExceptHandler} {l : List (Value × DS)} (h : DHds C hds l) : HdsOk C.X hds (hOf C.X.K C.T l) := by
  induction h with
  | nil => exact .nil
  | cons hc hsu r ih => exact .cons hc (fun a oe cls d pn _ _ => ⟨fun pins s σ H D I ⟨τ, M, er, ab, tb, q⟩ => (hsu H M a _).pss.run pins s σ H D I ⟨τ, M, er, ⟨Keep.refl, ab, tb, trivial⟩, q⟩⟩) ih
theorem catch_hand {H H' : Hp} {M M' : Mp} {D : DEnds} (sr : SR C H M) {cls : Value} {od : Option Addr} {fs : DFs} {τ : Sd} {σ : L2.St} (er : EnvR C.X.K H' M' τ σ) (g : Go C H M H' M') (xd : XDen C.X.K H' M' od fs) : ∀ {l : List (Value × DS)}, (∀ p ∈ l, MonoS p.2) →
    catch_ C.X.K { D with ex := C.W } l cls fs τ M' → wMany C.X.K (LiftW C.X.K C.T C.H0 C.M0 C.W) (endsOf C H M D) (hOf C.X.K C.T l) cls od σ H'
  | [], _, q => ⟨τ, M', fs, er, ⟨(sr.go g).keep, g.abs, g.tab⟩, xd, q⟩
  | (c, ts) :: r, hm, ⟨b, e, y, n⟩ => ⟨b, e, fun hb a _ => by
      have q := y hb
      refine ⟨τ, M', er, g.abs, g.tab, hm _ List.mem_cons_self { D with ex := fun _ _ _ _ => False } _ τ M' ⟨fun τ2 M2 z σ2 H2 er2 g2 => ⟨τ2, M2, er2, g.trans g2, z⟩, fun d M2 z v H2 g2 dn => ⟨d, M2, g.trans g2, dn, z⟩, fun τ2 M2 z σ2 H2 er2 g2 => ⟨τ2, M2, er2, g.trans g2, z⟩, fun τ2 M2 z σ2 H2 er2 g2 => ⟨τ2, M2, er2, g.trans g2, z⟩, fun _ _ _ _ z => z⟩ q⟩,
    fun hb => catch_hand sr er g xd (fun p hp => hm p (List.mem_cons_of_mem _ hp)) (n hb)⟩
def tryT (K : PySem.W.Frag) (T : List (Addr × Str)) (J : Hp → Mp → Prop) (tb : DS) (W : WX) : TS := fun D σ H => ∃ (τ : Sd) (M : Mp) (Wd : DW), EnvR K H M τ σ ∧ Abs K H M ∧ LamX.Tabs T H ∧ J H M ∧ (∀ cls od σ' H', LiftW K T H M Wd cls od σ' H' → W cls od σ' H') ∧
  tb { nx := fun τ' M' => ∀ σ' H', EnvR K H' M' τ' σ' → GoK K T H M H' M' → D.nx σ' H', rt := fun d M' => ∀ v H', GoK K T H M H' M' → Den K H' M' d v → D.rt v H',
       bk := fun τ' M' => ∀ σ' H', EnvR K H' M' τ' σ' → GoK K T H M H' M' → D.bk σ' H', ct := fun τ' M' => ∀ σ' H', EnvR K H' M' τ' σ' → GoK K T H M H' M' → D.ct σ' H', ex := Wd } τ M
theorem takesF {X : Cx} : Takes X (fun _ _ _ _ => False) := fun _ _ x => by
  obtain ⟨_, _, _, _, _, _, _, _, _, _, _, _, _, _, _, _, z⟩ := x
  exact z.elim
/-- try: body, except X: .., except Y: .. -/
theorem ds_try {body : List Stmt} {h₀ : ExceptHandler} {hds : List ExceptHandler} {l : List (Value × DS)} {tb : DS} {pos : Pos}
    (hb : ∀ (H : Hp) (M : Mp) (Wd : DW) (W : WX) (pn : List (Addr × Obj)) (xe : Value → Shared → Prop) (tk : Takes (C.X.tr pn xe) W) (po : PassesOwn (model C.X.prog C.X.w) C.X.A C.X.env xe) (hW : ∀ cls od σ H', LiftW C.X.K C.T H M Wd cls od σ H' → W cls od σ H'),
      DPSs (trC C H M Wd W pn xe tk po hW) body tb)
    (hh : DHds C (h₀ :: hds) l) (hs : C.X.stack = C.X.env :: C.X.outer := by rfl) (hf : C.X.env.frame = some C.X.env.locals := by rfl) : DPS C (.Try body (h₀ :: hds) [] [] pos) (sTry C.X.K tb l) := by
  have m : MonoS tb := (hb (fun _ => none) (fun _ => none) (fun _ _ _ _ => False) (fun _ _ _ _ => False) [] (fun _ _ => False) takesF PassesOwn.never (fun _ _ _ _ ⟨_, _, _, _, _, _, z⟩ => z)).mono
  refine .of (monoS_try m hh.mono) (ps_try_many (tb := tryT C.X.K C.T C.J tb) (Wout := LiftW C.X.K C.T C.H0 C.M0 C.W) hs hf C.tk (fun W pn xe tk po => ⟨fun pins s σ H D I ⟨τ, M, Wd, er, ab, tabs, cod, hW, q⟩ => ?_⟩) hh.ok) fun H M τ σ D er sr q => ?_
  · exact (hb H M Wd W pn xe tk po hW).pss.run pins s σ H D I ⟨τ, M, er, ⟨Keep.refl, ab, tabs, cod⟩, q⟩
  · refine ⟨τ, M, catch_ C.X.K { D with ex := C.W } l, er, sr.abs, sr.tab, sr.cod, fun cls od σ' H' ⟨τ', M', fs, er', ⟨k1, k2, k3⟩, xd, w⟩ => ?_, m { D with ex := catch_ C.X.K { D with ex := C.W } l } _ τ M ⟨fun τ2 M2 z σ2 H2 er2 g2 => ⟨τ2, M2, er2, g2, z⟩, fun d M2 z v H2 g2 dn => ⟨d, M2, g2, dn, z⟩, fun τ2 M2 z σ2 H2 er2 g2 => ⟨τ2, M2, er2, g2, z⟩, fun τ2 M2 z σ2 H2 er2 g2 => ⟨τ2, M2, er2, g2, z⟩, fun _ _ _ _ z => z⟩ q⟩
    exact catch_hand sr er' ⟨k1, k2, k3⟩ xd hh.mono w
end
end DL

/-! A lambda that is handed to a def and called there, over data. -/
namespace DL
open PySem PySem.Spec PyProof.Rows L2
/-- g's own context, entered at s -/
abbrev gCx (X : Cx) (Ng : List Str) (x : Str) (sg : Scope) (g : Addr) (cdv : Value) (s : Shared) (H : Hp) : Cx := cxOf C8.CX0 X.prog X.w X.K X.mg X.base Ng x sg g cdv X.A X.stack s H C8.E0
section
variable {X : Cx} {σ : L2.St} {H : Hp} {s : Shared}
/-- the lambda f called by its name in g: the exception's wish at the very slots of the call -/
theorem actS {Ng : List Str} {qg : Str} {sg : Scope} {g f c' : Addr} {cdg pm ctv : Value} {params : Arguments} {body : Expr} {scope : Scope} {k i : Nat} {a : Str} {pn pins : List (Addr × Obj)} {xe : Value → Shared → Prop} {W : WX} {tE : XK → TE} {p1 p2 : Pos}
    (I : Inv X pins σ H s) (L : LamX.LamS X.env.scope scope) (hf : s.heap.get? f = some (PySem.W.kla_obj "<lambda>" (X.env.qual ++ "<lambda>") params body scope (cloFrom X.env.cells scope.names []) pm c' ctv)) (hfn : H f = none) (hfr : f ∉ frs X.stack)
    (hbind : bindArgs (PySem.W.kla_fn "<lambda>" (X.env.qual ++ "<lambda>") params body scope (cloFrom X.env.cells scope.names []) pm (.ref c') ctv) ⟨[], []⟩ = pure [])
    (tk : Takes ((gCx X Ng qg sg g cdg s H).tr pn xe) W) (hr : Room (k + 1) (X.A.deeper (envOfC qg sg s.heap.objs.size g cdg)))
    (hbody : ∀ (E : XK) (A : Around) (outer : List Env) (s : Shared) (H : Hp), Room k (A.deeper (LamX.lamEnv X scope s.heap.objs.size f c')) → PE (LamX.lamCx X A outer s H E scope f c') body (tE E))
    (hN : Ng[i]? = some a) (hv : Vis sg a) (hd : (a == ("__debug__" : Str)) = false) (hcd : (a == ("__classdict__" : Str)) = false) :
    PE ((gCx X Ng qg sg g cdg s H).tr pn xe) (.Call (.Name a p1) [] [] p2) (fun σZ HZ Q => σZ[i]? = some (some (.ref f)) ∧ HZ c' = some (LamX.CodeO c' (X.env.qual ++ "<lambda>")) ∧ tE (fun cls d H' => W cls d σZ H') σ HZ Q) := by
  refine ⟨fun pz sz σz Hz Q Iz h => ?_⟩
  obtain ⟨h1, h2, h3⟩ := h
  refine wpAny_Call_Name_kw (thn ((pe_var (pos := p1) (i := i) hN hv hd hcd).run pz sz σz Hz (fun v Hv => v = .ref f ∧ Hv = Hz) Iz ⟨.ref f, h1, rfl, rfl⟩) fun u s1 ⟨v, Hv, Iv, rv, ev⟩ => ?_)
  obtain ⟨rfl, rfl⟩ := ev
  obtain rfl : u = Value.ref f := rv
  have obj := Iv.base.keep f _ hf hfn hfr (fun z => nomatch (show f ∈ ([] : List Addr) from z))
  refine PySem.W.callWith_F0 ⟨_, _, _, _, obj⟩ ?_
  have un : Un (frs X.stack) [] H Hv s.heap s1.heap := Iv.base
  obtain ⟨⟨oc, vs, t, c1, c2, c3⟩, _, _⟩ := Iv.hok c' _ h2
  have done : codeAny (model X.prog X.w) (X.A.deeper (envOfC qg sg s.heap.objs.size g cdg)) (.call (.ref f) ⟨[], []⟩) (CR (L2.CX X.prog X.w) (envOfC qg sg s.heap.objs.size g cdg :: X.stack) X.prog X.w Hv s1 Q fun cls d H' => W cls d σz H') s1 := by
    refine PySem.W.kla_callFunE hr.depth obj rfl L.co L.gen rfl ⟨c', oc, vs, t, rfl, c1, c2, c3⟩ ?_
    rw [hbind]
    refine wpAny_pure (wpAny_newFunctionEnv (fun y hy => (L.own y hy).2) (fun y hy => absurd hy (by simp)) (fun hp ns sb => ⟨Iv.nolimit.fresh _ sb, ?_⟩) L.kind)
    have kp : ∀ b o, s1.heap.get? b = some o → hp.get? b = some o := fun b o e => sb.extBut b o (Nat.ne_of_lt (Heap.lt_size e)) (Heap.get?_push_of_some _ e)
    have J := LamX.lam_start2 (E := fun cls d H' => W cls d σz H') (f := f) (c' := c') (tk := s1.toks + ([] : List (Str × Value)).length) I L Iv.env0 hr.hd un ns kp
    refine PySem.W.kla_codeExpr (wpAny_mono ((hbody _ _ _ s1 Hv (hr.deeper _)).run [] _ _ Hv Q J h3) (fun v s' hq => ?_) fun e s' hq => hq)
    obtain ⟨w', H', J', r2, q⟩ := hq
    exact ⟨w', H', J'.os, J'.bare, J'.base, J'.hok, r2, q⟩
  refine wpAny_call (codeAny_mono done fun r s' hq => ?_)
  cases r with
  | error e => exact passAt tk σz pz Hv s1 e s' Iv hq
  | ok fl =>
    cases fl with
    | ret u => exact Iv.after hq
    | next => exact False.elim hq
    | brk => exact False.elim hq
    | cont => exact False.elim hq
end
/-- the def that calls what it got -/
def GivesS (X : Cx) (Ng : List Str) (x : Str) (sg : Scope) (g : Addr) (cdg : Value) (bg : List Stmt) (a : Str) (q : Str) (TT : (XK → Hp → VK → Prop) → Hp → VK → Prop) : Prop :=
  ∀ (f c' : Addr) (s : Shared) (H : Hp) (Q : VK) (tl : XK → Hp → VK → Prop),
    (∀ (W : WX) (pn : List (Addr × Obj)) (xe : Value → Shared → Prop) (p1 p2 : Pos), Takes ((gCx X Ng x sg g cdg s H).tr pn xe) W →
      PE ((gCx X Ng x sg g cdg s H).tr pn xe) (.Call (.Name a p1) [] [] p2) (fun σZ HZ Q => σZ[0]? = some (some (.ref f)) ∧ HZ c' = some (LamX.CodeO c' q) ∧ tl (fun cls d H' => W cls d σZ H') HZ Q)) →
    H c' = some (LamX.CodeO c' q) → TT tl H Q → ∃ t, PSs (gCx X Ng x sg g cdg s H).nox bg t ∧ t { nx := fun _ H' => Q .non H', rt := Q } (L2.start Ng [.ref f]) H
section
variable {X : Cx}
/-- x(lambda: body) -/
theorem lamcallS {T : List (Addr × Str)} {TT : (XK → Hp → VK → Prop) → Hp → VK → Prop} {x a : Str} {g c P : Addr} {k : Nat} {pg : Arguments} {bg : List Stmt} {sg : Scope} {dV kV doc pm cdv ct oc : Value} {an od : Option Addr} {osl : Array (Option Value)} {Ng : List Str}
    {params : Arguments} {body : Expr} {scope : Scope} {t : XK → TE} {p lpos pos : Pos} (hg : Gl X x) (hm : X.mg x = some (.ref g)) (hk : PySem.W.keepIn X.K (.ref g) = true)
    (lk : X.K.lookup g = some ⟨oc, od, .func (PySem.W.fnOf x x pg bg sg dV kV doc pm an cdv ct), osl⟩) (hcg : PySem.W.codeIn X.K cdv x = true) (hb : L2.Binds X.K (PySem.W.fnOf x x pg bg sg dV kV doc pm an cdv ct) [a] []) (Sg : FnScope Ng [a] sg) (hNg : Ng[0]? = some a) (hva : Vis sg a)
    (hG : GivesS X Ng x sg g cdv bg a (X.env.qual ++ "<lambda>") TT)
    (TB : LamX.TabB X.base X.mg c P) (hcode : X.env.code = .ref c) (hmT : (P, X.env.qual ++ "<lambda>") ∈ T) (hu : ∀ p ∈ T, p.1 = P → p.2 = X.env.qual ++ "<lambda>") (hr : Room (k + 2) X.A) (L : LamX.LamS X.env.scope scope) (hdef : defaultsOf params X.env = ([], []))
    (hbind : ∀ (q : Str) (cl : List (Str × Addr)) (pm cv ctv : Value), bindArgs (PySem.W.kla_fn "<lambda>" q params body scope cl pm cv ctv) ⟨[], []⟩ = pure [])
    (hbody : ∀ (A : Around) (outer : List Env) (s : Shared) (H : Hp) (E : XK) (f c' : Addr), Room k (A.deeper (LamX.lamEnv X scope s.heap.objs.size f c')) → PE (LamX.lamCx X A outer s H E scope f c') body (t E))
    (hdb : (x == ("__debug__" : Str)) = false) (hd : (a == ("__debug__" : Str)) = false) (hcd : (a == ("__classdict__" : Str)) = false) :
    PE X (.Call (.Name x p) [.Lambda params body scope lpos] [] pos) (LamX.tLam T TT t) := by
  refine ⟨fun pins s σ H Q I ⟨hT, h⟩ => ?_⟩
  refine wpAny_Call_Name_kw (ld_glob I hg hm ?_ hdb)
  refine PySem.W.callWith_K (h₀ := X.base) I.ok.mod.kin hk ?_ (by rfl) (by rfl)
  show wpAny _ _ (spliced ((false, eval (.Lambda params body scope lpos) X.env) :: backTo pos (starEach [] X.env))) _ _ s
  refine Calls.spliced_cons (LamX.lam_make2 I TB hcode hmT hu hT hdef (L.has I.ok) fun f c' pm' ctv H1 s' I1 eN T1 hf hfn hfr hco => ?_)
  refine Calls.spliced_nil ⟨I1.kIn, ?_⟩
  have done : codeAny (model X.prog X.w) X.A (.call (.ref g) ⟨[.ref f], []⟩) (CR C8.CX0 X.stack X.prog X.w H1 s' Q C8.E0) s' := by
    refine LamX.run_ofS (N := Ng) (ps := [a]) (us := [.ref f]) (vs := [.ref f]) lk hcg Sg hr I1.env0 (hb s' [.ref f] I1.kIn rfl) (.cons rfl .nil) rfl fun hr' => ?_
    obtain ⟨t', ht', hq'⟩ := hG f c' s' H1 Q (fun E H' Q' => t E σ H' Q') (fun W pn xe p1 p2 tk => actS (i := 0) I1 L hf hfn hfr (hbind _ _ _ _ _) tk hr' (fun E A outer s H hr2 => hbody A outer s H E f c' hr2) hNg hva hd hcd) hco (h H1 eN T1)
    exact ⟨t', ht'.nox, hq'⟩
  refine wpAny_call (codeAny_mono done fun r s2 hq => ?_)
  cases r with
  | error e => exact (show False from hq).elim
  | ok fl =>
    cases fl with
    | ret u => exact I1.after hq
    | next => exact False.elim hq
    | brk => exact False.elim hq
    | cont => exact False.elim hq
end
section
/-- the context of the lambda's body, looked at from the state H1, M -/
def lamC (C : DC) (A : Around) (outer : List Env) (s : Shared) (H : Hp) (E : XK) (scope : Scope) (f c' : Addr) (k : Nat) (hr : Room k (A.deeper (LamX.lamEnv C.X scope s.heap.objs.size f c'))) (H1 : Hp) (M : Mp) (Wd : DX)
    (hE : ∀ cls od H', eH C.X.K C.T H1 M Wd cls od H' → E cls od H') : DC where
  X := LamX.lamCx C.X A outer s H E scope f c'
  T := C.T
  H0 := H1
  M0 := M
  W := fun cls fs _ M' => Wd cls fs M'
  J := fun _ _ => True
  Jk := fun _ _ _ _ _ _ => trivial
  lv := k
  dp := hr.dp
  un := hr.un
  gb := false
  gd := fun z => nomatch z
  nd := C.nd
  po := PassesOwn.leaving
  tk := (takes_of (E := E) rfl rfl rfl rfl).imp fun cls od σ H' ⟨τ, M', fs, _, g, x, w⟩ => hE cls od H' ⟨fs, M', g, x, w⟩
/-- running a lambda, over data -/
abbrev Tl := Mp → DK → DX → Prop
def MonoTl (tl : Tl) : Prop := ∀ (M : Mp) (Q Q' : DK) (E E' : DX), (∀ d M', Q d M' → Q' d M') → (∀ c fs M', E c fs M' → E' c fs M') → tl M Q E → tl M Q' E'
/-- running the lambda's body, told over the hand layer: τ, the names where it was made -/
def lamT (K : PySem.W.Frag) (T : List (Addr × Str)) (tb : DE) : XK → TE := fun E σ H1 Q => ∃ (τ : Sd) (M : Mp) (Wd : DX), EnvR K H1 M τ σ ∧ Abs K H1 M ∧ LamX.Tabs T H1 ∧ (∀ cls od H', eH K T H1 M Wd cls od H' → E cls od H') ∧
  tb τ M (fun d M' => ∀ v H', GoK K T H1 M H' M' → Den K H' M' d v → Q v H') Wd
/-- what a def makes of the lambda that it is handed -/
abbrev LamP := Tl → Mp → DK → Prop
def MonoL (TT : LamP) : Prop := ∀ (tl : Tl) (M : Mp) (Q Q' : DK), (∀ d M', Q d M' → Q' d M') → TT tl M Q → TT tl M Q'
def ttH (K : PySem.W.Frag) (T : List (Addr × Str)) (TT : LamP) : (XK → Hp → VK → Prop) → Hp → VK → Prop := fun tl H Q => ∃ (M : Mp) (tld : Tl), Abs K H M ∧ LamX.Tabs T H ∧ MonoTl tld ∧
  (∀ (H' : Hp) (M' : Mp) (Q' : DK) (E' : DX) (Qh : VK) (Eh : XK), GoK K T H M H' M' → tld M' Q' E' → (∀ v d H2 M2, GoK K T H' M' H2 M2 → Den K H2 M2 d v → Q' d M2 → Qh v H2) → (∀ cls od H2, eH K T H' M' E' cls od H2 → Eh cls od H2) → tl Eh H' Qh) ∧
  TT tld M fun d M' => ∀ v H', GoK K T H M H' M' → Den K H' M' d v → Q v H'
def dLam (TT : LamP) (tb : DE) : DE := fun τ M Q E => TT (tb τ) M Q
theorem mono_lam {TT : LamP} {tb : DE} (m : MonoL TT) : MonoE (dLam TT tb) := fun τ M Q Q' E E' h _ q => m _ M Q Q' h q
variable {C : DC} {x a : Str} {g c P : Addr} {k : Nat} {pg : Arguments} {bg : List Stmt} {sg : Scope} {dV kV doc pm cdv ct oc : Value} {an od : Option Addr} {osl : Array (Option Value)} {Ng : List Str} {params : Arguments} {body : Expr} {scope : Scope} {tb : DE} {p lpos pos : Pos} {TT : LamP}
theorem de_lamcall (hg : Gl C.X x) (hm : C.X.mg x = some (.ref g)) (hk : PySem.W.keepIn C.X.K (.ref g) = true)
    (lk : C.X.K.lookup g = some ⟨oc, od, .func (PySem.W.fnOf x x pg bg sg dV kV doc pm an cdv ct), osl⟩) (hcg : PySem.W.codeIn C.X.K cdv x = true) (hb : L2.Binds C.X.K (PySem.W.fnOf x x pg bg sg dV kV doc pm an cdv ct) [a] []) (Sg : FnScope Ng [a] sg) (hNg : Ng[0]? = some a) (hva : Vis sg a)
    (hG : GivesS C.X Ng x sg g cdv bg a (C.X.env.qual ++ "<lambda>") (ttH C.X.K C.T TT)) (mT : MonoL TT)
    (TB : LamX.TabB C.X.base C.X.mg c P) (hcode : C.X.env.code = .ref c) (hmT : (P, C.X.env.qual ++ "<lambda>") ∈ C.T) (hu : ∀ p ∈ C.T, p.1 = P → p.2 = C.X.env.qual ++ "<lambda>") (hr : Room (k + 2) C.X.A) (L : LamX.LamS C.X.env.scope scope) (hdef : defaultsOf params C.X.env = ([], []))
    (hbind : ∀ (q : Str) (cl : List (Str × Addr)) (pm cv ctv : Value), bindArgs (PySem.W.kla_fn "<lambda>" q params body scope cl pm cv ctv) ⟨[], []⟩ = pure [])
    (hbody : ∀ (A : Around) (outer : List Env) (s : Shared) (H : Hp) (E : XK) (f c' : Addr) (hr : Room k (A.deeper (LamX.lamEnv C.X scope s.heap.objs.size f c'))) (H1 : Hp) (M : Mp) (Wd : DX) (hE : ∀ cls od H', eH C.X.K C.T H1 M Wd cls od H' → E cls od H'), DPE (lamC C A outer s H E scope f c' k hr H1 M Wd hE) body tb)
    (hdb : (x == ("__debug__" : Str)) = false := by decide) (hd : (a == ("__debug__" : Str)) = false := by decide) (hcd : (a == ("__classdict__" : Str)) = false := by decide) :
    DPE C (.Call (.Name x p) [.Lambda params body scope lpos] [] pos) (dLam TT tb) := by
  have mb : MonoE tb := (hbody C.X.A [] C.X.s_0 C.X.H_0 (eH C.X.K C.T C.X.H_0 C.M0 fun _ _ _ => False) 0 0 ((hr.mono (Nat.le_succ _)).deeper _) C.X.H_0 C.M0 (fun _ _ _ => False) fun _ _ _ z => z).mono
  refine .of (mono_lam mT) (lamcallS (t := lamT C.X.K C.T tb) hg hm hk lk hcg hb Sg hNg hva hG TB hcode hmT hu hr L hdef hbind (fun A outer s H E f c' hr' => ⟨fun pins s1 σ H1 Q I ⟨τ, M, Wd, er, ab, tabs, hE, q⟩ => ?_⟩) hdb hd hcd) fun σ H Q ⟨τ, M, er, sr, q⟩ => ?_
  · exact (hbody A outer s H E f c' hr' H1 M Wd hE).pe.run pins s1 σ H1 Q I ⟨τ, M, er, ⟨Keep.refl, ab, tabs, trivial⟩, q⟩
  · refine ⟨sr.tab, fun H1 eN T1 => ?_⟩
    have k1 : Keep H M H1 M := Keep.ext eN
    have a1 : Abs C.X.K H1 M := sr.abs.ext eN
    exact ⟨M, tb τ, a1, T1, mb τ, fun H' M' Q' E' Qh Eh g q2 hQ hE => ⟨τ, M', E', (er.keep k1).keep g.keep, g.abs, g.tab, hE, mb τ M' _ _ _ _ (fun d M2 z v H2 g2 dn => hQ v d H2 M2 g2 dn z) (fun _ _ _ z => z) q2⟩, mT _ M _ _ (fun d M' z v H' g dn => z v H' ⟨k1.trans g.keep, g.abs, g.tab⟩ dn) q⟩
/-- the context of the body of the def that calls what it got -/
def gC (C : DC) (Ng : List Str) (x : Str) (sg : Scope) (g : Addr) (cdv : Value) (hr : Room 2 C.X.A) (nd : Ng.Nodup) (s : Shared) (H : Hp) (M : Mp) (c' : Addr) (q : Str) : DC where
  X := (gCx C.X Ng x sg g cdv s H).nox
  T := C.T
  H0 := H
  M0 := M
  W := fun _ _ _ _ => False
  J := fun H' M' => (H' c' = some (LamX.CodeO c' q) ∧ M' c' = none) ∧ Keep H M H' M'
  Jk := fun H1 M1 H2 M2 ⟨⟨h1, h2⟩, k⟩ k2 => by
    obtain ⟨y, z⟩ := k2.at0 h2 h1 fun ps z => by unfold LamX.CodeO at z; cases z
    exact ⟨⟨z, y⟩, k.trans k2⟩
  lv := 0
  dp := by have := hr.dp; show C.X.A.depth + 1 + 3 * 0 + 5 < _; omega
  un := by have := hr.un; show C.X.A.units + 3 + 16 * 0 + 200 < _; omega
  gb := false
  gd := fun z => nomatch z
  nd := nd
  po := PassesOwn.never
  tk := fun _ _ z => by
    obtain ⟨_, _, _, _, _, _, _, _, _, _, _, _, _, _, _, _, _, _, _, _, _, _, no⟩ := z
    exact no.elim
def dAct (f : Addr) (tld : Tl) : DE := fun τ M Q E => getV τ 0 = some (.ref f) ∧ tld M Q E
theorem mono_act {f : Addr} {tld : Tl} (m : MonoTl tld) : MonoE (dAct f tld) := fun τ M Q Q' E E' h he q => ⟨q.1, m M Q Q' E E' h he q.2⟩
@[simp] theorem z_act {f : Addr} {tld : Tl} {τ : Sd} {M : Mp} {Q : DK} {E : DX} : dAct f tld τ M Q E = (getV τ 0 = some (.ref f) ∧ tld M Q E) := of_eq_true (eq_self _)
def endG (Q : DK) : DEnds := { nx := fun _ M' => Q .non M', rt := Q, ex := fun _ _ _ _ => False }
theorem gives_of {q : Str} {tg : Addr → Tl → DS} (hr : Room 2 C.X.A) (nd : Ng.Nodup)
    (hbody : ∀ (f : Addr) (s : Shared) (H : Hp) (M : Mp) (c' : Addr) (tld : Tl), MonoTl tld → (∀ (H1 : Hp) (M1 : Mp) (Wd : DW) (W : WX) (pn : List (Addr × Obj)) (xe : Value → Shared → Prop) (tk : Takes ((gC C Ng x sg g cdv hr nd s H M c' q).X.tr pn xe) W) (po : PassesOwn (model C.X.prog C.X.w) (gC C Ng x sg g cdv hr nd s H M c' q).X.A (gC C Ng x sg g cdv hr nd s H M c' q).X.env xe) (hW : ∀ cls od σ H', LiftW C.X.K C.T H1 M1 Wd cls od σ H' → W cls od σ H') (p1 p2 : Pos),
        DPE (trC (gC C Ng x sg g cdv hr nd s H M c' q) H1 M1 Wd W pn xe tk po hW) (.Call (.Name a p1) [] [] p2) (dAct f tld)) → DPSs (gC C Ng x sg g cdv hr nd s H M c' q) bg (tg f tld))
    (hrd : ∀ (f : Addr) (tld : Tl) (M : Mp) (Q : DK), MonoTl tld → TT tld M Q → tg f tld (endG Q) (startD Ng [.ref f]) M) : GivesS C.X Ng x sg g cdv bg a q (ttH C.X.K C.T TT) := by
  intro f c' s H Q tl act hc ⟨M, tld, ab, tabs, mt, conv, hT⟩
  have mc : M c' = none := by
    cases e : M c' with
    | none => rfl
    | some o =>
      have z := ab c' o e
      cases o with
      | lst ds => obtain ⟨vs, e1, _⟩ := z; rw [hc] at e1; unfold LamX.CodeO at e1; cases e1
      | ins cl fs => obtain ⟨dx, gs, e1, _⟩ := z; rw [hc] at e1; unfold LamX.CodeO at e1; cases e1
      | priv => obtain ⟨vs, e1⟩ := z; rw [hc] at e1; unfold LamX.CodeO at e1; cases e1
      | kst ks => have e1 := (show _ = _ from z); rw [hc] at e1; unfold LamX.CodeO at e1; cases e1
      | rng lo hi => have e1 := (show _ = _ from z); rw [hc] at e1; exact (rng_code (Option.some.inj e1).symm rfl).elim
  have hd := hbody f s H M c' tld mt fun H1 M1 Wd W pn xe tk po hW p1 p2 => .of (mono_act mt) (act W pn xe p1 p2 tk) fun σ H' Qh ⟨τ, M', er, sr, h0, hq⟩ => by
    obtain ⟨v, e0, dn⟩ := er.2 0 _ (getV_get h0)
    simp only [Den] at dn
    subst dn
    exact ⟨e0, sr.cod.1.1, conv H' M' _ _ Qh _ ⟨sr.cod.2, sr.abs, sr.tab⟩ hq (fun v d H2 M2 g dn z => z v H2 g dn) fun cls od H2 ⟨fs, M2, ⟨k, a, t⟩, xd, w⟩ => hW cls od σ H2 ⟨τ, M2, fs, er.keep k, ⟨sr.keep.trans k, a, t⟩, xd, w⟩⟩
  refine ⟨_, hd.pss, startD Ng [.ref f], M, EnvR.start (DenL.cons (by simp only [Den]) DenL.nil), ⟨Keep.refl, ab, tabs, ⟨hc, mc⟩, Keep.refl⟩, ?_⟩
  refine hd.mono (endG fun d M' => ∀ v H', GoK C.X.K C.T H M H' M' → Den C.X.K H' M' d v → Q v H') _ _ M ⟨fun τ' M' z σ' H' er g => z .non H' g (by simp only [Den]), fun d M' z v H' g dn => z v H' g dn, fun _ _ z => z.elim, fun _ _ z => z.elim, fun _ _ _ _ z => z.elim⟩ (hrd f tld M _ mt hT)
end
end DL

/-! except X as e; isinstance(e, Y); flags.count, flags.index. -/
namespace DL
open PySem PySem.Spec PyProof.Rows L2
theorem XDen.none {K : PySem.W.Frag} {H : Hp} {M : Mp} {od : Option Addr} (h : XDen K H M od []) : od = none := by
  rcases h with ⟨h, _⟩ | ⟨_, _, _, _, _, _, h⟩
  · exact h
  · exact absurd rfl h
/-! ### what the error classes say -/
def excB (K : PySem.W.Frag) (D : Addr) : Bool := decide (PySem.W.findIn K (.ref D) "__getattribute__" = some (some (.builtin "BaseException.__getattribute__"))) && (decide (PySem.W.findIn K (.ref D) "__getattr__" = some none) &&
  (decide (PySem.W.subIn K (.ref D) (.type "BaseException") = some true) && (PySem.W.hasDictIn K D && (decide (PySem.W.findIn K (.ref D) "__class__" = some (some (.builtin "object.__class__"))) &&
  (decide (PySem.W.specialIn K (.builtin "object.__class__") "__get__" = some (some (.builtin "getset_descriptor.__get__"))) && (decide (PySem.W.takesIn K (.builtin "object.__class__") = some true) && decide (PySem.W.mroIn K D (.type "object") = some true)))))))
theorem excB_ok {K : PySem.W.Frag} {D : Addr} (h : excB K D = true) : ExcC K D := by
  unfold excB at h
  simp only [Bool.and_eq_true, decide_eq_true_eq] at h
  obtain ⟨h1, h2, h3, h4, h5, h6, h7, h8⟩ := h
  exact ⟨h1, h2, h3, h4, h5, h6, h7, h8⟩
structure ExF (K : PySem.W.Frag) (l : List Str) : Prop where
  ec : ∀ x ∈ l, ExcC K (He.ga K x)
  te : ∀ x ∈ l, PySem.W.exmOne K (cl K x) (cl K "TrackError") = some true
  ve : ∀ x ∈ l, PySem.W.kitOne K (cl K x) (.type "ValueError") = some true
  is : ∀ x ∈ l, ∀ y ∈ l, PySem.W.kitOne K (cl K x) (cl K y) = some (decide (x = y))
def exFB (l : List Str) (K : PySem.W.Frag) : Bool := (l.all fun x => excB K (He.ga K x)) && ((l.all fun x => decide (PySem.W.exmOne K (cl K x) (cl K "TrackError") = some true)) && ((l.all fun x => decide (PySem.W.kitOne K (cl K x) (.type "ValueError") = some true)) &&
  l.all fun x => l.all fun y => decide (PySem.W.kitOne K (cl K x) (cl K y) = some (decide (x = y)))))
theorem exF_ok {K : PySem.W.Frag} {l : List Str} (h : exFB l K = true) : ExF K l := by
  unfold exFB at h
  simp only [Bool.and_eq_true, List.all_eq_true, decide_eq_true_eq] at h
  obtain ⟨h1, h2, h3, h4⟩ := h
  exact ⟨fun x hx => excB_ok (h1 x hx), h2, h3, h4⟩
/-! ### try .. except X as e -/
section
variable {C : DC}
def enE (i : Nat) (En : DEnds) : DEnds := { nx := fun τ2 M2 => En.nx (setV τ2 i none) M2, rt := En.rt, bk := fun τ2 M2 => En.bk (setV τ2 i none) M2, ct := fun τ2 M2 => En.ct (setV τ2 i none) M2, ex := fun _ _ _ _ => False }
theorem enE_mono {i : Nat} {a b : DEnds} (h : a.Le b) : (enE i a).Le (enE i b) := ⟨fun τ2 M2 => h.nx (setV τ2 i none) M2, h.rt, fun τ2 M2 => h.bk (setV τ2 i none) M2, fun τ2 M2 => h.ct (setV τ2 i none) M2, fun _ _ _ _ z => z⟩
def caE (K : PySem.W.Frag) (l : List Str) (i : Nat) (ts : Addr → Str → DS) (En : DEnds) : DW := fun cls fs τ' M' => fs = [] ∧ ∃ x ∈ l, cls = cl K x ∧ ∀ a, M' a = none → ts a x (enE i En) (setV τ' i (some (.ref a))) M'
def sTryE (K : PySem.W.Frag) (l : List Str) (i : Nat) (tb : DS) (ts : Addr → Str → DS) : DS := fun En τ M => tb { En with ex := caE K l i ts En } τ M
theorem monoS_tryE {K : PySem.W.Frag} {l : List Str} {i : Nat} {tb : DS} {ts : Addr → Str → DS} (m : MonoS tb) (hm : ∀ a x, x ∈ l → MonoS (ts a x)) : MonoS (sTryE K l i tb ts) := fun a b τ M h q => m { a with ex := caE K l i ts a } { b with ex := caE K l i ts b } τ M ⟨h.nx, h.rt, h.bk, h.ct, fun cls fs τ' M' ⟨e, x, hx, ec, z⟩ => ⟨e, x, hx, ec, fun p hp => hm p x hx _ _ _ _ (enE_mono h) (z p hp)⟩⟩ q
theorem ds_tryE {l : List Str} {n : Str} {i : Nat} {body suite : List Stmt} {b₀ : Stmt} {np pos pos' : Pos} {tb : DS} {ts : Addr → Str → DS} (F : ExF C.X.K l) (hc : Names C.X "TrackError" (cl C.X.K "TrackError"))
    (hb : ∀ (H : Hp) (M : Mp) (Wd : DW) (W : WX) (pn : List (Addr × Obj)) (xe : Value → Shared → Prop) (tk : Takes (C.X.tr pn xe) W) (po : PassesOwn (model C.X.prog C.X.w) C.X.A C.X.env xe) (hW : ∀ cls od σ H', LiftW C.X.K C.T H M Wd cls od σ H' → W cls od σ H'),
      DPSs (trC C H M Wd W pn xe tk po hW) body tb)
    (hsu : ∀ (H : Hp) (M : Mp) (a : Addr) (oe : Obj) (x : Str) (pn : List (Addr × Obj)), x ∈ l → Zc (cl C.X.K x) none oe → (∃ vs, oe.data = .fields vs) → DPSs (suC C H M a ((a, oe) :: pn)) (b₀ :: suite) (ts a x))
    (hi : C.X.N[i]? = some n := by rfl) (hln : C.X.env.kindOf n = some .local := by rfl)
    (hs : C.X.stack = C.X.env :: C.X.outer := by rfl) (hf : C.X.env.frame = some C.X.env.locals := by rfl) : DPS C (.Try body [.ExceptHandler (some (.Name "TrackError" np)) (some n) (b₀ :: suite) pos'] [] [] pos) (sTryE C.X.K l i tb ts) := by
  have m : MonoS tb := (hb (fun _ => none) (fun _ => none) (fun _ _ _ _ => False) (fun _ _ _ _ => False) [] (fun _ _ => False) takesF PassesOwn.never (fun _ _ _ _ ⟨_, _, _, _, _, _, z⟩ => z)).mono
  have hm : ∀ a x, x ∈ l → MonoS (ts a x) := fun a x hx => (hsu (fun _ => none) (fun _ => none) a { cls := cl C.X.K x, dict := none, data := .fields #[] } x [] hx ⟨rfl, rfl⟩ ⟨_, rfl⟩).mono
  refine .of (monoS_tryE m hm) (ps_try_as (tb := tryT C.X.K C.T C.J tb) (Wout := LiftW C.X.K C.T C.H0 C.M0 C.W) (i := i) (ts := fun a cls d D σ H => d = none ∧ ∃ x ∈ l, cls = cl C.X.K x ∧ suT C.X.K C.T (ts a x) D σ H) hs hf C.nd hi hln hc C.tk (fun W pn xe tk po => ⟨fun pins s σ H D I ⟨τ, M, Wd, er, ab, tabs, cod, hW, q⟩ => ?_⟩)
    (fun a oe cls d pn hz hfd => ⟨fun pins s σ H D I ⟨hd, x, hx, ec, τ, M, er, ab, tabs, q⟩ => ?_⟩)) fun H M τ σ D er sr q => ?_
  · exact (hb H M Wd W pn xe tk po hW).pss.run pins s σ H D I ⟨τ, M, er, ⟨Keep.refl, ab, tabs, cod⟩, q⟩
  · subst hd ec
    exact (hsu H M a oe x pn hx hz hfd).pss.run pins s σ H D I ⟨τ, M, er, ⟨Keep.refl, ab, tabs, trivial⟩, q⟩
  · refine ⟨τ, M, caE C.X.K l i ts { D with ex := C.W }, er, sr.abs, sr.tab, sr.cod, fun cls od σ' H' ⟨τ', M', fs, er', ⟨k1, k2, k3⟩, xd, w⟩ => ?_, m { D with ex := caE C.X.K l i ts { D with ex := C.W } } _ τ M ⟨fun τ2 M2 z σ2 H2 er2 g2 => ⟨τ2, M2, er2, g2, z⟩, fun d M2 z v H2 g2 dn => ⟨d, M2, g2, dn, z⟩, fun τ2 M2 z σ2 H2 er2 g2 => ⟨τ2, M2, er2, g2, z⟩, fun τ2 M2 z σ2 H2 er2 g2 => ⟨τ2, M2, er2, g2, z⟩, fun _ _ _ _ z => z⟩ q⟩
    obtain ⟨e, x, hx, ec, z⟩ := w
    subst e ec
    have hod := xd.none
    subst hod
    refine ⟨true, F.te x hx, fun _ a ha => ⟨rfl, x, hx, rfl, ?_⟩, fun z => nomatch z⟩
    have hM : M' a = none := by
      cases e : M' a with
      | none => rfl
      | some o =>
        have z := k2 a o e
        cases o with
        | lst ds => obtain ⟨vs, e1, _⟩ := z; rw [ha] at e1; cases e1
        | ins cl fs => obtain ⟨dx, gs, e1, _⟩ := z; rw [ha] at e1; cases e1
        | priv => obtain ⟨vs, e1⟩ := z; rw [ha] at e1; cases e1
        | kst ks => have e1 := (show _ = _ from z); rw [ha] at e1; cases e1
        | rng lo hi => have e1 := (show _ = _ from z); rw [ha] at e1; unfold rngO at e1; cases e1
    have g : Go C H M H' M' := ⟨k1, k2, k3⟩
    refine ⟨setV τ' i (some (.ref a)), M', by rw [setV_set]; exact er'.set (by simp only [Den]), k2, k3, hm a x hx (enE i { D with ex := C.W }) _ _ M' ⟨fun τ2 M2 z σ2 H2 er2 g2 => ⟨setV τ2 i none, M2, by rw [setV_set]; exact er2.unset, g.trans g2, z⟩, fun d M2 z v H2 g2 dn => ⟨d, M2, g.trans g2, dn, z⟩, fun τ2 M2 z σ2 H2 er2 g2 => ⟨setV τ2 i none, M2, by rw [setV_set]; exact er2.unset, g.trans g2, z⟩, fun τ2 M2 z σ2 H2 er2 g2 => ⟨setV τ2 i none, M2, by rw [setV_set]; exact er2.unset, g.trans g2, z⟩, fun _ _ _ _ z => z⟩ (z a hM)⟩
end
/-! ### isinstance(e, Y) in the suite -/
def gIsE (K : PySem.W.Frag) (a : Addr) (x : Str) : OL := fun ds M => match ds with
  | [.ref b, .ref q] => if b = a then (PySem.W.kitOne K (cl K x) (.ref q)).map .bl else none
  | [.ref b, .ty n] => if b = a then (PySem.W.kitOne K (cl K x) (.type n)).map .bl else none
  | _ => none
theorem cl_isE {C : DC} {H : Hp} {M : Mp} {a : Addr} {oe : Obj} {x : Str} {pn : List (Addr × Obj)} (E : ExcC C.X.K (He.ga C.X.K x)) (hz : Zc (cl C.X.K x) none oe) (hf : ∃ vs, oe.data = .fields vs) : DCl (suC C H M a ((a, oe) :: pn)) (.builtin "isinstance") (gIsE C.X.K a x) :=
  .of (call_isE (X := C.X) E hz hf) fun pins s σ H1 M1 xs ds z Q I sr l e k => by
    unfold gIsE at e
    split at e
    · rename_i b q
      split at e
      · rename_i hb
        subst hb
        obtain ⟨r, er, rfl⟩ := Option.map_eq_some_iff.mp e
        obtain ⟨v, w, rfl, d1, d2⟩ := l.two
        simp only [Den] at d1 d2
        subst d1 d2
        exact ⟨_, _, r, rfl, fun u hu => hu, er, k _ _ (Go.refl sr) (by simp only [Den])⟩
      · cases e
    · rename_i b n
      split at e
      · rename_i hb
        subst hb
        obtain ⟨r, er, rfl⟩ := Option.map_eq_some_iff.mp e
        obtain ⟨v, w, rfl, d1, d2⟩ := l.two
        simp only [Den] at d1 d2
        subst d1 d2
        exact ⟨_, _, r, rfl, fun u hu => hu, er, k _ _ (Go.refl sr) (by simp only [Den])⟩
      · cases e
    · cases e
/-- a class by its name -/
theorem de_glo {C : DC} {x : Str} {pos : Pos} (hm : C.X.mg x = some (cl C.X.K x)) (hg : Gl C.X x := by rfl) (hd : (x == ("__debug__" : Str)) = false := by decide) : DPE C (.Name x pos) (dC (.ref (He.ga C.X.K x))) :=
  ⟨mono_c, fun pins s σ H τ M Q I er sr q => ld_glob I hg hm ⟨.ref (He.ga C.X.K x), H, .ref (He.ga C.X.K x), M, I, rfl, Go.refl sr, by simp only [Den], q⟩ hd⟩
/-! ### flags.count(b), flags.index(b) -/
def rCntB (K : PySem.W.Frag) : V → List V → Hp → VK → Prop := fun x xs H Q => ∃ (p : Addr) (bs : List Bool) (k : Bool), x = .ref p ∧ xs = [.bl k] ∧ SqL K H p (bs.map V.bl) ∧ Q (.int (bs.count k : Nat)) H
def rIdxB (K : PySem.W.Frag) : V → List V → Hp → VK → Prop := fun x xs H Q => ∃ (p : Addr) (bs : List Bool) (k : Bool) (j : Nat), x = .ref p ∧ xs = [.bl k] ∧ SqL K H p (bs.map V.bl) ∧ bs[j]? = some k ∧ (∀ m < j, bs[m]? ≠ some k) ∧ Q (.int (j : Nat)) H
theorem bools_of : ∀ {bs : List Bool} {its : List Value}, Vals (bs.map V.bl) its → its = bs.map Value.bool
  | [], _, h => by cases h; rfl
  | b :: bs, _, h => by
    cases h with
    | cons r rr =>
      have e : _ = Value.bool b := r
      rw [e, bools_of rr]; rfl
def eqB (k : Bool) : Value → Bool
  | .bool b => b == k
  | _ => false
section
variable {X : Cx}
theorem mt_cntB : MtR X "list.count" (rCntB X.K) := by
  intro pins s σ H x xs v us Q I rx rxs h
  obtain ⟨p, bs, k, rfl, rfl, hs, q⟩ := h
  cases rx
  obtain ⟨u, rfl, ru⟩ := rxs.one
  obtain rfl : u = Value.bool k := ru
  obtain ⟨its, rv, ⟨⟨cls, dd, data, sl⟩, n, ho, hc, hdn, hd⟩, hlen⟩ := I.list hs
  simp only at hc hd
  subst hc hd
  obtain rfl := bools_of rv
  refine call_meets PySem.F.slot_list_count ⟨_, ho, rfl⟩ PySem.F.entry_list_count (PySem.F.args_list_count_2 _ _)
    (SeqAt.list_countAt p (bs.map Value.bool).toArray n dd sl (.bool k) (eqB k)) ⟨ho, fun y hy => ?_, ?_⟩
  · obtain ⟨b, _, rfl⟩ := List.mem_map.mp (show y ∈ bs.map Value.bool by simpa only [List.mem_toArray] using hy)
    exact SeqAt.EqAt.bool_bool b k
  · have ec : (bs.map Value.bool).toArray.toList.countP (eqB k) = bs.count k := by
      rw [List.countP_map, List.count]
      rfl
    refine ⟨.int (bs.count k : Nat), H, I.tok _, ⟨s.toks, ?_⟩, q⟩
    show Value.int (((bs.map Value.bool).toArray.toList.countP (eqB k) : Nat) : Int) s.toks = Value.int ((bs.count k : Nat) : Int) s.toks
    rw [ec]
theorem mt_idxB : MtR X "list.index" (rIdxB X.K) := by
  intro pins s σ H x xs v us Q I rx rxs h
  obtain ⟨p, bs, k, j, rfl, rfl, hs, hj, hno, q⟩ := h
  cases rx
  obtain ⟨u, rfl, ru⟩ := rxs.one
  obtain rfl : u = Value.bool k := ru
  obtain ⟨its, rv, ⟨⟨cls, dd, data, sl⟩, n, ho, hc, hdn, hd⟩, hlen⟩ := I.list hs
  simp only at hc hd
  subst hc hd
  obtain rfl := bools_of rv
  obtain ⟨hjl, hjk⟩ := List.getElem?_eq_some_iff.mp hj
  have hsl := sizeLine_eq
  have hl2 : bs.length ≤ sizeLine := by simpa using hlen
  refine call_meets PySem.F.slot_list_index ⟨_, ho, rfl⟩ PySem.F.entry_list_index (PySem.F.args_list_index_2 _ _)
    (SeqAt.list_indexAt p (bs.map Value.bool).toArray n dd sl (.bool k) (eqB k) j (by simpa using hjl) (by omega) ?_ ?_) ⟨ho, fun y hy => ?_, ?_⟩
  · simp [eqB, hjk]
  · intro m hm hmj
    have hml : m < bs.length := by omega
    have := hno m hmj
    rw [List.getElem?_eq_getElem hml] at this
    have nk : bs[m] ≠ k := fun z => this (by rw [z])
    simp [eqB, nk]
  · obtain ⟨b, _, rfl⟩ := List.mem_map.mp (show y ∈ bs.map Value.bool by simpa only [List.mem_toArray] using hy)
    exact SeqAt.EqAt.bool_bool b k
  · exact ⟨.int (j : Nat), H, I.tok _, ⟨_, rfl⟩, q⟩
end
/-- a list, whoever holds it -/
def tySq (M : Mp) (d : D) : Prop := ∃ xs, itemsL M d = some xs
def rCB : DM := fun d ds M Q => match ds with
  | [.bl k] => ok1 ((itemsL M d).bind flags) fun bs => Q (.int (bs.count k : Nat)) M
  | _ => False
def rIB : DM := fun d ds M Q => match ds with
  | [.bl k] => ok1 ((itemsL M d).bind flags) fun bs => k ∈ bs ∧ Q (.int (bs.idxOf k : Nat)) M
  | _ => False
theorem mono_cb : MonoM rCB := fun d ds M Q Q' h q => by
  revert q
  unfold rCB
  split
  · exact ok1_mono (fun _ => h _ _)
  · exact id
theorem mono_ib : MonoM rIB := fun d ds M Q Q' h q => by
  revert q
  unfold rIB
  split
  · exact ok1_mono (fun _ z => ⟨z.1, h _ _ z.2⟩)
  · exact id
section
variable {C : DC} {o e : Expr} {apos cpos : Pos} {to : DE} {t : DA}
theorem tySq_v {H : Hp} {M : Mp} {d : D} {v : V} (sr : SR C H M) (dn : Den C.X.K H M d v) (h : tySq M d) : tyV C.X.K "list" v H := by
  obtain ⟨xs, e⟩ := h
  obtain ⟨e1, e2⟩ := itemsL_of e
  obtain ⟨a, vs, rfl, l, h⟩ := seq_of sr.abs dn e1
  rcases h with ⟨⟨zs, hz⟩, _⟩ | ⟨_, sq, _⟩
  · exact absurd hz (e2 zs)
  · exact Or.inl ⟨rfl, vs, sq⟩
theorem lst_den {H : Hp} {M : Mp} {d : D} {v : V} {bs : List Bool} (sr : SR C H M) (dn : Den C.X.K H M d v) (h : (itemsL M d).bind flags = some bs) : ∃ p, v = .ref p ∧ SqL C.X.K H p (bs.map V.bl) := by
  obtain ⟨xs, e, ef⟩ := Option.bind_eq_some_iff.mp h
  obtain ⟨e1, e2⟩ := itemsL_of e
  obtain ⟨a, vs, rfl, l, h⟩ := seq_of sr.abs dn e1
  rcases h with ⟨⟨zs, hz⟩, _⟩ | ⟨_, sq, _⟩
  · exact absurd hz (e2 zs)
  · rw [flags_den ef l] at sq
    exact ⟨a, rfl, sq⟩
theorem mtd_cb : MtD C tySq rCB "list" (rCntB C.X.K) := ⟨fun H M d v sr dn h => tySq_v sr dn h, fun H M d v ds vs Q sr dn l h => by
  unfold rCB at h
  split at h
  · obtain ⟨bs, eb, q⟩ := ok1_ex h
    obtain ⟨w, rfl, dw⟩ := l.one
    simp only [Den] at dw
    subst dw
    obtain ⟨p, rfl, sq⟩ := lst_den sr dn eb
    exact ⟨p, bs, _, rfl, rfl, sq, _, M, Go.refl sr, by simp only [Den], q⟩
  · exact h.elim⟩
theorem mtd_ib : MtD C tySq rIB "list" (rIdxB C.X.K) := ⟨fun H M d v sr dn h => tySq_v sr dn h, fun H M d v ds vs Q sr dn l h => by
  unfold rIB at h
  split at h
  · rename_i k
    obtain ⟨bs, eb, hk, q⟩ := ok1_ex h
    obtain ⟨w, rfl, dw⟩ := l.one
    simp only [Den] at dw
    subst dw
    obtain ⟨p, rfl, sq⟩ := lst_den sr dn eb
    have hl : bs.idxOf k < bs.length := List.idxOf_lt_length_of_mem hk
    refine ⟨p, bs, _, bs.idxOf k, rfl, rfl, sq, by rw [List.getElem?_eq_getElem hl, List.getElem_idxOf], fun m hm e => ?_, _, M, Go.refl sr, by simp only [Den], q⟩
    obtain ⟨hml, e'⟩ := List.getElem?_eq_some_iff.mp e
    have := List.not_of_lt_findIdx (p := fun x => x == k) (xs := bs) (i := m) hm
    simp [e'] at this
  · exact h.elim⟩
theorem de_cntB (ho : DPE C o to) (ha : DPA C [e] t) (hbase : attributeBase o "count" C.X.env (eval o C.X.env) = eval o C.X.env := by rfl)
    (hfew : ((backTo cpos (starEach [e] C.X.env)).all (fun x => !x.1) && (backToKw cpos (keywordEach [] C.X.env)).all (fun x => x.1.isSome)
      && decide ([e].length + ([] : List Keyword).length + (if ([] : List Keyword).isEmpty then 0 else 1) < 30)) = true := by rfl)
    (hline : (apos.endLine == cpos.line) = true := by rfl) (hs : starEach [e] C.X.env = (false, eval e C.X.env) :: starEach [] C.X.env := by rfl) (hplain : (backTo cpos (starEach [] C.X.env)).any (·.1) = false := by rfl) :
    DPE C (.Call (.Attribute o "count" apos) [e] [] cpos) (dMeth tySq rCB to t) := de_meth PySem.F.plainAttrs_list PySem.F.slot_list_count PySem.F.type_list_count mt_cntB mtd_cb mono_cb ho ha hbase hfew hline hs hplain
theorem de_idxB (ho : DPE C o to) (ha : DPA C [e] t) (hbase : attributeBase o "index" C.X.env (eval o C.X.env) = eval o C.X.env := by rfl)
    (hfew : ((backTo cpos (starEach [e] C.X.env)).all (fun x => !x.1) && (backToKw cpos (keywordEach [] C.X.env)).all (fun x => x.1.isSome)
      && decide ([e].length + ([] : List Keyword).length + (if ([] : List Keyword).isEmpty then 0 else 1) < 30)) = true := by rfl)
    (hline : (apos.endLine == cpos.line) = true := by rfl) (hs : starEach [e] C.X.env = (false, eval e C.X.env) :: starEach [] C.X.env := by rfl) (hplain : (backTo cpos (starEach [] C.X.env)).any (·.1) = false := by rfl) :
    DPE C (.Call (.Attribute o "index" apos) [e] [] cpos) (dMeth tySq rIB to t) := de_meth PySem.F.plainAttrs_list PySem.F.slot_list_index PySem.F.type_list_index mt_idxB mtd_ib mono_ib ho ha hbase hfew hline hs hplain
end
end DL

/-! enumerate of a list, of a tuple. -/
namespace DL
open PySem PySem.Spec PyProof.Rows L2
theorem meets_enum_tuple (l : Addr) (items : Array Value) :
    Meets (Builtin.«enumerate.__new__» ⟨[.type "enumerate", .ref l], []⟩) (fun _ R s => s.heap.IsTuple l items ∧
      R (.ok (.ret (.ref (s.heap.push { cls := .type "tuple_iterator", data := .fields #[.ref l, .int 0 0] }).objs.size)))
        { s with heap := (s.heap.push { cls := .type "tuple_iterator", data := .fields #[.ref l, .int 0 0] }).push { cls := .type "enumerate", data := .fields #[.none, .bool false, .ref s.heap.objs.size, rawInt 0, .none, .none] } }) :=
  .of_wp fun prog w A R s h => by
    obtain ⟨hp, g, d, tk, os⟩ := s; obtain ⟨h1, h⟩ := h
    have hsub := sub_enumerate
    have q1 : ∀ {A' : Around} {E : Value → Shared → Prop} {Q : Value → Shared → Prop}, Q (.ref hp.objs.size) ⟨hp.push { cls := .type "tuple_iterator", data := .fields #[.ref l, .int 0 0] }, g, d, tk, os⟩ → wpAny (model prog w) A' (pyIter (.ref l)) Q E ⟨hp, g, d, tk, os⟩ :=
      fun q => (begins_tuple l items).iter prog w _ _ ⟨hp, g, d, tk, os⟩ _ h1 q
    wp_walk using q1
    refine wpAny_stack_any fun st => wpAny_pure ?_
    split
    · rename_i c _ _ _ _ _
      cases (c == Value.type "enumerate")
      · wp_walk using q1
        exact ⟨_, rfl, h⟩
      · wp_walk using q1
        exact ⟨_, rfl, h⟩
    · wp_walk using q1
      exact ⟨_, rfl, h⟩
section
variable {prog : Program} {w : World} {A : Around} {E : Value → Shared → Prop} {s : Shared}
theorem call_enum_tuple {l : Addr} {items : Array Value} {Q : Value → Shared → Prop} (hL : s.heap.IsTuple l items)
    (h : ∀ h', IsEnum h' (s.heap.objs.size + 1) s.heap.objs.size 0 .none → h'.IsTupleIter s.heap.objs.size l 0 → h'.objs.size = s.heap.objs.size + 2 →
      (∀ b o, s.heap.get? b = some o → h'.get? b = some o) → Q (.ref (s.heap.objs.size + 1)) { s with heap := h' }) :
    wpAny (model prog w) A (call (.type "enumerate") [.ref l]) Q E s := by
  refine callType_new F.called_enumerate (by decide) (F.typeCall_enumerate_1 _) (F.newCall_enumerate_1 _) (fun obj => F.args_object_init_2 obj _) F.entry_enumerate_new
    (meets_enum_tuple l items) ⟨hL, ?_⟩
  have hz : (s.heap.push { cls := .type "tuple_iterator", data := .fields #[.ref l, .int 0 0] }).objs.size = s.heap.objs.size + 1 := Heap.size_push ..
  show _ ∧ _
  rw [hz]
  have he : IsEnum ((s.heap.push { cls := .type "tuple_iterator", data := .fields #[.ref l, .int 0 0] }).push
      { cls := .type "enumerate", data := .fields #[.none, .bool false, .ref s.heap.objs.size, rawInt 0, .none, .none] }) (s.heap.objs.size + 1) s.heap.objs.size 0 .none := by
    have := Heap.get?_push_size (s.heap.push { cls := .type "tuple_iterator", data := .fields #[.ref l, .int 0 0] })
      (o := { cls := .type "enumerate", data := .fields #[.none, .bool false, .ref s.heap.objs.size, rawInt 0, .none, .none] }) rfl
    rw [hz] at this; exact this
  refine ⟨⟨_, he, rfl⟩, h _ he ⟨_, Heap.get?_push_of_some _ (Heap.get?_push_size _ rfl), rfl, rfl⟩ (by rw [Heap.size_push, hz]) fun b o x => Heap.get?_push_of_some _ (Heap.get?_push_of_some _ x)⟩
end
/-- the tuple at a as it stands at each turn, each item in a new pair -/
def Itu (K : PySem.W.Frag) (a : Addr) : It :=
  ⟨fun i H => ∃ (xs : List V) (x : V), SqT K H a xs ∧ xs[i]? = some x, fun i H v H' => ∃ T x, v = .ref T ∧ H T = none ∧ H' = upd H T (.tup [.int (i : Nat), x]) ∧ ∀ xs, SqT K H a xs → xs[i]? = some x, fun i H => ∃ xs : List V, SqT K H a xs ∧ xs.length ≤ i⟩
theorem turn_enumT {P : Program} {w : World} {K : PySem.W.Frag} {elts : List Expr} {kk : Nat} {tpos : Pos} (a e it : Addr) (hat : a ≠ it) (hae : a ≠ e) :
    Turn P w K (.Tuple elts kk tpos) (Itu K a) [e, it] e (fun i h => (∃ old, IsEnum h e it ((i : Nat) : Int) old) ∧ h.IsTupleIter it a i ∧ e ≠ it) where
  mem := by simp
  obj := fun i h st b hb => by
    obtain ⟨⟨old, he⟩, ⟨o, ho, hc, hd⟩, _⟩ := st
    have e' : b = e ∨ b = it := by simpa using hb
    rcases e' with z | z
    · rw [z]; exact ⟨_, he, fun v q => nomatch q⟩
    · rw [z]; exact ⟨o, ho, fun v q => by rw [hd] at q; cases q⟩
  keep := fun i h h' st k => let ⟨⟨old, he⟩, hi, hne⟩ := st; ⟨⟨old, k e (by simp) _ he⟩, hi.at fun o q => k it (by simp) o q, hne⟩
  item := by
    intro X hP hw hK hc i pins s σ H E I hf st hg
    subst hP hw hK
    obtain ⟨⟨old, he⟩, hit, hne⟩ := st
    obtain ⟨xs, x, hq, hx⟩ := hg
    obtain ⟨its, rv, p, hz⟩ := I.tuple hq
    obtain ⟨u, hu, ru⟩ := rv.get hx
    have hel : e < s.heap.objs.size := Heap.lt_size he
    have hil : it < s.heap.objs.size := by obtain ⟨_, q, _⟩ := hit; exact Heap.lt_size q
    have hin : i < its.toArray.size := by
      obtain ⟨h, _⟩ := List.getElem?_eq_some_iff.mp hu
      simpa using h
    refine wpAny_pyNext_enum_itemD (Draws.tuple (show X.A.in1.handled = none from I.ok.hd hc) it a hat its.toArray) he ⟨hit, p⟩ hin hne (by simp [hne, hae.symm]) fun y h' tk hy ho hit' hT hsz hk => ?_
    obtain rfl : y = u := by
      have e1 : its[i]? = some y := by simpa using hy
      rw [hu] at e1; exact (Option.some.inj e1).symm
    refine ⟨_, rfl, wpAny_letOwnedTupleGo_enum (s := { s with heap := h', toks := tk + 1 }) ho fun h'' he' sb => ?_⟩
    have hT2 : h''.get? s.heap.objs.size = some { cls := .type "tuple", data := .seq #[.int i tk, y] } := (sb.2 _ (Nat.ne_of_gt hel)).trans hT
    have new : ObjOk X.prog X.w (upd H s.heap.objs.size (.tup [.int (i : Nat), x])) h'' s.heap.objs.size (.tup [.int (i : Nat), x]) :=
      ⟨by show 2 ≤ sizeLine; decide, [.int i tk, y], .cons ⟨_, rfl⟩ (.cons ru .nil), ⟨_, hT2, rfl, _, rfl⟩⟩
    have I1 : Inv X pins σ (upd H s.heap.objs.size (.tup [.int (i : Nat), x])) { s with heap := h'', toks := tk + 1 } :=
      I.turnedNew (ch := [e, it]) (fun b ob hb q => (sb.2 b (fun z => hb (by simp [z]))).trans (hk b ob (fun z => hb (by simp [z])) (fun z => hb (by simp [z])) q)) hf (Nat.le_refl _) new
    refine ⟨.ref s.heap.objs.size, _, I1, rfl, ⟨_, x, rfl, I.hok.fresh (Nat.le_refl _), rfl, fun ys hy => by rw [I.tuple_inj hy hq]; exact hx⟩, ⟨⟨y, ?_⟩, hit'.1.at fun o q => (sb.2 it (Ne.symm hne)).trans q, hne⟩, fun b hb => ?_⟩
    · have e1 : ((i + 1 : Nat) : Int) = (i : Int) + 1 := by omega
      rw [e1]; exact he'
    · have hb' : b < s.heap.objs.size := by
        have e' : b = e ∨ b = it := by simpa using hb
        rcases e' with z | z
        · rw [z]; exact hel
        · rw [z]; exact hil
      rw [upd_ne (Nat.ne_of_lt hb')]
      exact (hf b hb).1
  done := by
    intro X hP hw hK hc i pins s σ H E I hf st hg
    subst hP hw hK
    obtain ⟨⟨old, he⟩, hit, hne⟩ := st
    obtain ⟨xs, hq, hx⟩ := hg
    obtain ⟨its, rv, p, hz⟩ := I.tuple hq
    obtain ⟨f0, f1, f2, f3, f4, f5⟩ := hf it (by simp)
    have hl := rv.length
    have D : Draws X.prog X.w X.A.in1 it [it, a] 0 (fun _ _ => True) (fun _ h => h.IsTupleIter it a i ∧ h.IsTuple a its.toArray) :=
      { live := fun _ _ st => let ⟨o, ho, _⟩ := st.1; ⟨o, ho⟩
        frame := fun _ _ _ st hk => ⟨st.1.at fun o e => hk it (by simp) o e, st.2.at fun o e => hk a (by simp) o e⟩
        item := fun j s Q E hi st hQ => absurd hi (Nat.not_lt_zero _)
        done := fun s Q E st hE => wpAny_nextOf_tuple_end (show X.A.in1.handled = none from I.ok.hd hc) st.1 st.2 (by simp; omega) hE }
    exact wpAny_pyNext_enum_endD D he ⟨hit, p⟩ fun h' eb => ⟨rfl, I.turned (t' := s.toks) (fun b o hb q => eb b o hb q) f0 f1 f3 f4 f5⟩
  self := fun A i s Q E st h => let ⟨⟨_, he⟩, _⟩ := st; wpAny_pyIter_enum he h
/-- an own pi: a list, or a tuple -/
def iEnumA (K : PySem.W.Frag) (ta : TA) : TI := fun σ H R => ta σ H fun vs H1 => ∃ a xs, vs = [.ref a] ∧ ((SqL K H1 a xs ∧ R (Ite K a) H1) ∨ (SqT K H1 a xs ∧ R (Itu K a) H1))
theorem pi_enumA {X : Cx} {e : Expr} {ta : TA} {p pos tpos : Pos} {elts : List Expr} {kk : Nat} (hg : Gl X "enumerate") (hm : X.mg "enumerate" = none) (ha : PA X [e] ta) (hs : starEach [e] X.env = [(false, eval e X.env)] := by rfl) :
    PI X (.Tuple elts kk tpos) (.Call (.Name "enumerate" p) [e] [] pos) (iEnumA X.K ta) := by
  refine ⟨fun pins s σ H R I h => ?_⟩
  refine Call_ (ld_blt I hg hm boot_enumerate (PyProof.Rows.callWith_type1 (thn (ha.run pos pins s σ H _ I h) fun us s1 ⟨vs, H1, I1, r1, q1⟩ => ?_) hs rfl))
  obtain ⟨a, xs, ex, q⟩ := q1
  subst ex
  cases r1 with
  | cons r rr =>
    cases rr
    cases r
    have fr : ∀ b ∈ [s1.heap.objs.size + 1, s1.heap.objs.size], s1.heap.objs.size ≤ b := fun b hb => by
      have e' : b = s1.heap.objs.size + 1 ∨ b = s1.heap.objs.size := by simpa using hb
      rcases e' with z | z
      · rw [z]; exact Nat.le_add_right _ _
      · rw [z]; exact Nat.le_refl _
    rcases q with ⟨hq, q⟩ | ⟨hq, q⟩
    · obtain ⟨its, rv, p', hz⟩ := I1.list hq
      refine call_enumerate_list p'.isList fun h' he hit hsz hk => wpAny_pyIter_enum he ?_
      have I2 : Inv X pins σ H1 { s1 with heap := h' } := I1.kept (t' := s1.toks) hk
      exact ⟨s1.heap.objs.size + 1, [s1.heap.objs.size + 1, s1.heap.objs.size], _, _, H1, rfl, I2, turn_enum a (s1.heap.objs.size + 1) s1.heap.objs.size, ⟨⟨.none, he⟩, hit, Nat.succ_ne_self _⟩, fun b hb => I1.fpOk (fr b hb) (I1.hok.fresh (fr b hb)), q⟩
    · obtain ⟨its, rv, p', hz⟩ := I1.tuple hq
      have ha : a < s1.heap.objs.size := by obtain ⟨_, q, _⟩ := p'; exact Heap.lt_size q
      refine call_enum_tuple (show s1.heap.IsTuple a its.toArray from p') fun h' he hit hsz hk => wpAny_pyIter_enum he ?_
      have I2 : Inv X pins σ H1 { s1 with heap := h' } := I1.kept (t' := s1.toks) hk
      exact ⟨s1.heap.objs.size + 1, [s1.heap.objs.size + 1, s1.heap.objs.size], _, _, H1, rfl, I2, turn_enumT a (s1.heap.objs.size + 1) s1.heap.objs.size (Nat.ne_of_lt ha) (Nat.ne_of_lt (Nat.lt_succ_of_lt ha)), ⟨⟨.none, he⟩, hit, Nat.succ_ne_self _⟩, fun b hb => I1.fpOk (fr b hb) (I1.hok.fresh (fr b hb)), q⟩
def enumD (k : Nat) : List D → List D
  | [] => []
  | x :: xs => .tup [.int k, x] :: enumD (k + 1) xs
theorem enumD_length : ∀ (k : Nat) (xs : List D), (enumD k xs).length = xs.length
  | _, [] => rfl
  | k, x :: xs => by simp [enumD, enumD_length (k + 1) xs]
theorem enumD_get : ∀ {xs : List D} {k i : Nat} {d : D}, (enumD k xs)[i]? = some d → ∃ x, xs[i]? = some x ∧ d = .tup [.int (k + i : Nat), x]
  | [], _, _, _, h => by simp [enumD] at h
  | x :: xs, k, 0, d, h => by simp [enumD] at h; exact ⟨x, rfl, h.symm⟩
  | x :: xs, k, i + 1, d, h => by
    obtain ⟨y, a, e⟩ := enumD_get (xs := xs) (k := k + 1) (i := i) (by simpa [enumD] using h)
    refine ⟨y, by simpa using a, ?_⟩
    rw [e, show k + 1 + i = k + (i + 1) by omega]
def iEnumD (ta : DA) : DI := fun τ M Q E => ta τ M (fun ds M1 => match ds with
  | [x] => ok1 (items M1 x) fun xs => Q (enumD 0 xs) (okOf x xs) M1
  | _ => False) E
theorem monoI_enum {t : DA} (m : MonoA t) : MonoI (iEnumD t) := fun τ M Q Q' E E' h he q => m τ M _ _ _ _ (fun ds M1 z => by
  revert z
  split
  · exact ok1_mono (fun xs => h _ _ _)
  · exact id) he q
section
variable {C : DC} {e a b c tg : Expr} {es elts : List Expr} {p pos tpos : Pos} {te ta tb : DE} {kk : Nat}
theorem di_enum {t : DA} (hg : Gl C.X "enumerate") (hm : C.X.mg "enumerate" = none) (ha : DPA C [a] t) (hs : starEach [a] C.X.env = [(false, eval a C.X.env)] := by rfl) :
    DPI C (.Tuple elts kk tpos) (.Call (.Name "enumerate" p) [a] [] pos) (iEnumD t) :=
  dpi_run' (monoI_enum ha.mono) (pi_enumA hg hm ha.pa hs) fun pins s σ H τ M Q I er sr q => ⟨τ, M, er, sr, ha.mono _ _ _ _ _ _ (fun ds M' z vs H' g l => by
    revert z
    split
    · rename_i x
      intro z
      obtain ⟨xs, ex, z⟩ := ok1_ex z
      obtain ⟨v, rfl, dn⟩ := l.one
      have sr' := sr.go g
      obtain ⟨a1, vs, rfl, l1, h1⟩ := seq_of sr'.abs dn ex
      have hl1 := l1.length
      refine ⟨a1, vs, rfl, ?_⟩
      rcases h1 with ⟨⟨zs, k1⟩, h1, st1⟩ | ⟨k1, h1, st1⟩
      · refine .inr ⟨h1, _, _, M', g, fun s2 I2 => ?_, z⟩
        obtain ⟨_, _, _, hz⟩ := I2.tuple h1
        refine ⟨by rw [enumD_length]; omega, fun i H1 M1 d g1 ok hd => ?_, fun i H1 M1 g1 ok hi => ?_⟩
        · obtain ⟨dx, hx, rfl⟩ := enumD_get hd
          obtain ⟨q1, e1⟩ := st1 H1 M1 g1.keep
          obtain ⟨x1, hx1, dx1⟩ := e1.get hx
          refine ⟨⟨_, x1, q1, hx1⟩, fun v H2 yl => ?_⟩
          obtain ⟨T, x2, rfl, hT, rfl, f1⟩ := yl
          have := f1 _ q1; rw [hx1] at this; cases this
          rw [Nat.zero_add]
          exact new_tup (sr'.go g1) hT (.cons (by simp only [Den]) (.cons dx1 .nil))
        · obtain ⟨q1, e1⟩ := st1 H1 M1 g1.keep
          exact ⟨_, q1, by rw [enumD_length] at hi; omega⟩
      · refine .inl ⟨h1, _, _, M', g, fun s2 I2 => ?_, z⟩
        obtain ⟨_, _, _, hz⟩ := I2.list h1
        refine ⟨by rw [enumD_length]; omega, fun i H1 M1 d g1 ok hd => ?_, fun i H1 M1 g1 ok hi => ?_⟩
        · obtain ⟨dx, hx, rfl⟩ := enumD_get hd
          obtain ⟨us, q1, e1⟩ := st1 H1 M1 g1.keep g1.abs ok
          obtain ⟨x1, hx1, dx1⟩ := e1.get hx
          refine ⟨⟨_, x1, q1, hx1⟩, fun v H2 yl => ?_⟩
          obtain ⟨T, x2, rfl, hT, rfl, f1⟩ := yl
          have := f1 _ q1; rw [hx1] at this; cases this
          rw [Nat.zero_add]
          exact new_tup (sr'.go g1) hT (.cons (by simp only [Den]) (.cons dx1 .nil))
        · obtain ⟨us, q1, e1⟩ := st1 H1 M1 g1.keep g1.abs ok
          have := e1.length
          exact ⟨_, q1, by rw [enumD_length] at hi; omega⟩
    · exact fun z => z.elim) (fun _ _ _ z => z) q⟩
end
end DL

/-! More methods; ranges as lists. -/
namespace DL
open PySem PySem.Spec PyProof.Rows L2
section
variable {C : DC} {o e a b : Expr} {to ta tb : DE} {t : DA} {apos cpos p p2 q2 pos : Pos}
/-! ### pop, extend -/
theorem DenL.eraseIdx {K : PySem.W.Frag} {H : Hp} {M : Mp} {ds : List D} {vs : List V} (k : Nat) (h : DenL K H M ds vs) : DenL K H M (ds.eraseIdx k) (vs.eraseIdx k) := by
  rw [List.eraseIdx_eq_take_drop_succ, List.eraseIdx_eq_take_drop_succ]
  exact (h.take k).append (h.drop (k + 1))
theorem DenL.dropLast {K : PySem.W.Frag} {H : Hp} {M : Mp} {ds : List D} {vs : List V} (h : DenL K H M ds vs) : DenL K H M ds.dropLast vs.dropLast := by
  rw [List.dropLast_eq_take, List.dropLast_eq_take, h.length]
  exact h.take _
def rPop0 : DM := fun d ds M Q => ∃ q xs y, d = .ref q ∧ ds = [] ∧ M q = some (.lst xs) ∧ xs[xs.length - 1]? = some y ∧ Q y (put M q (.lst xs.dropLast))
def rPopI : DM := fun d ds M Q => ∃ q xs i k y, d = .ref q ∧ ds = [.int i] ∧ M q = some (.lst xs) ∧ -(2 ^ 63) ≤ i ∧ i < 2 ^ 63 ∧ seqIndex? i xs.length = some k ∧ xs[k]? = some y ∧ Q y (put M q (.lst (xs.eraseIdx k)))
def rExt : DM := fun d ds M Q => ∃ q xs y zs, d = .ref q ∧ ds = [y] ∧ M q = some (.lst xs) ∧ deref M y = .lst zs ∧ xs.length + zs.length ≤ sizeLine ∧ Q .non (put M q (.lst (xs ++ zs)))
theorem mono_pop0 : MonoM rPop0 := fun d ds M Q Q' h ⟨q, xs, y, a, b, c, e, z⟩ => ⟨q, xs, y, a, b, c, e, h _ _ z⟩
theorem mono_popI : MonoM rPopI := fun d ds M Q Q' h ⟨q, xs, i, k, y, a, b, c, e, f, g, i2, z⟩ => ⟨q, xs, i, k, y, a, b, c, e, f, g, i2, h _ _ z⟩
theorem mono_ext : MonoM rExt := fun d ds M Q Q' h ⟨q, xs, y, zs, a, b, c, e, f, z⟩ => ⟨q, xs, y, zs, a, b, c, e, f, h _ _ z⟩
theorem mtd_pop0 : MtD C tyLst rPop0 "list" L2.rPop := ⟨fun H M d v sr dn h => tyLst_v sr dn h, fun H M d v ds vs Q sr dn l h => by
  obtain ⟨q, xs, y, rfl, rfl, hM, hy, h⟩ := h
  simp only [Den] at dn
  subst dn
  obtain ⟨us, hH, lu⟩ := sr.abs q _ hM
  simp only [DenL] at l
  subst l
  obtain ⟨w, hw, dw⟩ := lu.get hy
  have g := write_lst sr hM lu.dropLast
  exact ⟨q, us, w, rfl, rfl, hH, by rw [lu.length]; exact hw, y, _, g, Den.keep g.keep y dw, h⟩⟩
theorem mtd_popI : MtD C tyLst rPopI "list" L2.rPopAt := ⟨fun H M d v sr dn h => tyLst_v sr dn h, fun H M d v ds vs Q sr dn l h => by
  obtain ⟨q, xs, i, k, y, rfl, rfl, hM, h1, h2, hk, hy, h⟩ := h
  simp only [Den] at dn
  subst dn
  obtain ⟨us, hH, lu⟩ := sr.abs q _ hM
  obtain ⟨w0, rfl, d0⟩ := l.one
  simp only [Den] at d0
  subst d0
  obtain ⟨w, hw, dw⟩ := lu.get hy
  have g := write_lst sr hM (lu.eraseIdx k)
  exact ⟨q, us, i, k, w, rfl, rfl, hH, h1, h2, by rw [lu.length]; exact hk, hw, y, _, g, Den.keep g.keep y dw, h⟩⟩
theorem mtd_ext : MtD C tyLst rExt "list" L2.rExtend := ⟨fun H M d v sr dn h => tyLst_v sr dn h, fun H M d v ds vs Q sr dn l h => by
  obtain ⟨q, xs, y, zs, rfl, rfl, hM, hy, hz, h⟩ := h
  simp only [Den] at dn
  subst dn
  obtain ⟨us, hH, lu⟩ := sr.abs q _ hM
  obtain ⟨w, rfl, dw⟩ := l.one
  obtain ⟨q2, ws, rfl, hH2, lw⟩ := deref_lst sr.abs hy dw
  have g := write_lst sr hM (lu.append lw)
  exact ⟨q, q2, us, ws, rfl, rfl, hH, hH2, by rw [lu.length, lw.length]; exact hz, .non, _, g, by simp only [Den], h⟩⟩
theorem de_pop0 (ho : DPE C o to) (hbase : attributeBase o "pop" C.X.env (eval o C.X.env) = eval o C.X.env := by rfl) (hline : (apos.endLine == cpos.line) = true := by rfl) :
    DPE C (.Call (.Attribute o "pop" apos) [] [] cpos) (dMeth tyLst rPop0 to dNil) := de_meth0 PySem.F.plainAttrs_list PySem.F.slot_list_pop PySem.F.type_list_pop (MtM.r mt_pop) mtd_pop0 mono_pop0 ho hbase hline
theorem de_popI (ho : DPE C o to) (ha : DPA C [e] t) (hbase : attributeBase o "pop" C.X.env (eval o C.X.env) = eval o C.X.env := by rfl)
    (hfew : ((backTo cpos (starEach [e] C.X.env)).all (fun x => !x.1) && (backToKw cpos (keywordEach [] C.X.env)).all (fun x => x.1.isSome)
      && decide ([e].length + ([] : List Keyword).length + (if ([] : List Keyword).isEmpty then 0 else 1) < 30)) = true := by rfl)
    (hline : (apos.endLine == cpos.line) = true := by rfl) (hs : starEach [e] C.X.env = (false, eval e C.X.env) :: starEach [] C.X.env := by rfl) (hplain : (backTo cpos (starEach [] C.X.env)).any (·.1) = false := by rfl) :
    DPE C (.Call (.Attribute o "pop" apos) [e] [] cpos) (dMeth tyLst rPopI to t) := de_meth PySem.F.plainAttrs_list PySem.F.slot_list_pop PySem.F.type_list_pop (MtM.r mt_popAt) mtd_popI mono_popI ho ha hbase hfew hline hs hplain
theorem de_extend (ho : DPE C o to) (ha : DPA C [e] t) (hbase : attributeBase o "extend" C.X.env (eval o C.X.env) = eval o C.X.env := by rfl)
    (hfew : ((backTo cpos (starEach [e] C.X.env)).all (fun x => !x.1) && (backToKw cpos (keywordEach [] C.X.env)).all (fun x => x.1.isSome)
      && decide ([e].length + ([] : List Keyword).length + (if ([] : List Keyword).isEmpty then 0 else 1) < 30)) = true := by rfl)
    (hline : (apos.endLine == cpos.line) = true := by rfl) (hs : starEach [e] C.X.env = (false, eval e C.X.env) :: starEach [] C.X.env := by rfl) (hplain : (backTo cpos (starEach [] C.X.env)).any (·.1) = false := by rfl) :
    DPE C (.Call (.Attribute o "extend" apos) [e] [] cpos) (dMeth tyLst rExt to t) := de_meth PySem.F.plainAttrs_list PySem.F.slot_list_extend PySem.F.type_list_extend (MtM.r mt_extend) mtd_ext mono_ext ho ha hbase hfew hline hs hplain
/-! ### list(range(..)), tuple(range(..)) -/
def rgOk (i j : Int) : Prop := -4000000000000000000 ≤ i ∧ i ≤ 4000000000000000000 ∧ -4000000000000000000 ≤ j ∧ j ≤ 4000000000000000000 ∧ j - i ≤ 16777216
theorem rgOk.ok {i j : Int} (h : rgOk i j) : RgOk i j := by
  obtain ⟨a, b, c, d, e⟩ := h
  exact ⟨by omega, by omega, by omega, by omega, by omega⟩
theorem rg_den {K : PySem.W.Frag} {H : Hp} {M : Mp} {i j : Int} : DenL K H M (rangeD i (j - i).toNat) (rgV i j) := by
  unfold rangeD rgV
  generalize List.range (j - i).toNat = l
  induction l with
  | nil => exact DenL.nil
  | cons x r ih => exact DenL.cons (by simp only [Den]) ih
/-- the two ends of a range -/
def rgTo (x y : D) (k : Int → Int → Prop) : Prop := match x, y with
  | .int i, .int j => rgOk i j ∧ k i j
  | _, _ => False
theorem rgTo_of {x y : D} {k : Int → Int → Prop} (h : rgTo x y k) : ∃ i j, x = .int i ∧ y = .int j ∧ rgOk i j ∧ k i j := by
  unfold rgTo at h
  split at h
  · exact ⟨_, _, rfl, rfl, h⟩
  · exact h.elim
theorem rgTo_mono {x y : D} {k k' : Int → Int → Prop} (m : ∀ i j, k i j → k' i j) (h : rgTo x y k) : rgTo x y k' := by
  obtain ⟨i, j, rfl, rfl, a, b⟩ := rgTo_of h
  exact ⟨a, m _ _ b⟩
def dRgT (ta tb : DE) : DE := fun τ M Q E => ta τ M (fun x M1 => tb τ M1 (fun y M2 => rgTo x y fun i j => Q (.tup (rangeD i (j - i).toNat)) M2) E) E
def dRgL (ta tb : DE) : DE := fun τ M Q E => ta τ M (fun x M1 => tb τ M1 (fun y M2 => rgTo x y fun i j => Q (.lst (rangeD i (j - i).toNat)) M2) E) E
def dRgM (ta tb : DE) : DE := fun τ M Q E => ta τ M (fun x M1 => tb τ M1 (fun y M2 => rgTo x y fun i j => ∀ q, M2 q = none → Q (.ref q) (put M2 q (.lst (rangeD i (j - i).toNat)))) E) E
theorem mono_rgT (m : MonoE ta) (n : MonoE tb) : MonoE (dRgT ta tb) := fun τ M Q Q' E E' h he q => m τ M _ _ _ _ (fun x M1 => n τ M1 _ _ _ _ (fun y M2 => rgTo_mono fun i j => h _ _) he) he q
theorem mono_rgL (m : MonoE ta) (n : MonoE tb) : MonoE (dRgL ta tb) := fun τ M Q Q' E E' h he q => m τ M _ _ _ _ (fun x M1 => n τ M1 _ _ _ _ (fun y M2 => rgTo_mono fun i j => h _ _) he) he q
theorem mono_rgM (m : MonoE ta) (n : MonoE tb) : MonoE (dRgM ta tb) := fun τ M Q Q' E E' h he q => m τ M _ _ _ _ (fun x M1 => n τ M1 _ _ _ _ (fun y M2 => rgTo_mono fun i j z q hq => h _ _ (z q hq)) he) he q
/-- a range's ends, over the hand layer -/
theorem rg_two {σ : L2.St} {H : Hp} {K : Int → Int → Hp → Prop} {τ : Sd} {M : Mp} (er : EnvR C.X.K H M τ σ) (sr : SR C H M) {k : Int → Int → Mp → Prop} (ha : DPE C a ta) (hb : DPE C b tb)
    (q : ta τ M (fun x M1 => tb τ M1 (fun y M2 => rgTo x y fun i j => k i j M2) (xw C τ)) (xw C τ)) (hk : ∀ i j M' H', rgOk i j → Go C H M H' M' → k i j M' → K i j H') : tRg2 (liftE C ta) (liftE C tb) σ H K := by
  refine ⟨τ, M, er, sr, ha.mono τ M _ _ _ _ (fun x M1 z v H1 g1 d1 => ⟨τ, M1, er.keep g1.keep, sr.go g1, hb.mono τ M1 _ _ _ _ (fun y M2 w u H2 g2 d2 => ?_) (fun _ _ _ z => z) z⟩) (fun _ _ _ z => z) q⟩
  obtain ⟨i, j, rfl, rfl, ok, w⟩ := rgTo_of w
  simp only [Den] at d1 d2
  exact ⟨i, j, d1, d2, hk i j M2 H2 ok (g1.trans g2) w⟩
theorem den_rgT {H : Hp} {M : Mp} {q : Addr} {i j : Int} (sr : SR C H M) (hq : H q = none) : Go C H M (upd H q (.tup (rgV i j))) M ∧ Den C.X.K (upd H q (.tup (rgV i j))) M (.tup (rangeD i (j - i).toNat)) (.ref q) := new_tup sr hq rg_den
theorem de_tupRg2 (hg : Gl C.X "range") (hm : C.X.mg "range" = none) (hg2 : Gl C.X "tuple") (hm2 : C.X.mg "tuple" = none) (hc : C.X.calm = true) (ha : DPE C a ta) (hb : DPE C b tb)
    (na : starEach [a, b] C.X.env = (false, eval a C.X.env) :: starEach [b] C.X.env := by rfl) (nb : starEach [b] C.X.env = (false, eval b C.X.env) :: starEach [] C.X.env := by rfl) (hp : (backTo q2 (starEach [b] C.X.env)).any (·.1) = false := by rfl)
    (nc : starEach [.Call (.Name "range" p2) [a, b] [] q2] C.X.env = (false, eval (.Call (.Name "range" p2) [a, b] [] q2) C.X.env) :: starEach [] C.X.env := by rfl) :
    DPE C (.Call (.Name "tuple" p) [.Call (.Name "range" p2) [a, b] [] q2] [] pos) (dRgT ta tb) :=
  .of (mono_rgT ha.mono hb.mono) (pe_tupRg hc hg2 hm2 (prg_2 hg hm ha.pe hb.pe na nb hp) nc) fun σ H Q ⟨τ, M, er, sr, q⟩ =>
    rg_two er sr ha hb q fun i j M' H' ok g z => ⟨ok.ok, fun r hr => by
      obtain ⟨g2, dn⟩ := den_rgT (i := i) (j := j) (sr.go g) hr
      exact z _ _ (g.trans g2) dn⟩
theorem de_lstRg2 (hg : Gl C.X "range") (hm : C.X.mg "range" = none) (hg2 : Gl C.X "list") (hm2 : C.X.mg "list" = none) (hc : C.X.calm = true) (ha : DPE C a ta) (hb : DPE C b tb)
    (na : starEach [a, b] C.X.env = (false, eval a C.X.env) :: starEach [b] C.X.env := by rfl) (nb : starEach [b] C.X.env = (false, eval b C.X.env) :: starEach [] C.X.env := by rfl) (hp : (backTo q2 (starEach [b] C.X.env)).any (·.1) = false := by rfl)
    (nc : starEach [.Call (.Name "range" p2) [a, b] [] q2] C.X.env = (false, eval (.Call (.Name "range" p2) [a, b] [] q2) C.X.env) :: starEach [] C.X.env := by rfl) :
    DPE C (.Call (.Name "list" p) [.Call (.Name "range" p2) [a, b] [] q2] [] pos) (dRgL ta tb) :=
  .of (mono_rgL ha.mono hb.mono) (pe_listRg hc hg2 hm2 (prg_2 hg hm ha.pe hb.pe na nb hp) nc) fun σ H Q ⟨τ, M, er, sr, q⟩ =>
    rg_two er sr ha hb q fun i j M' H' ok g z => ⟨ok.ok, fun r hr => by
      obtain ⟨g2, dn⟩ := new_lst (xs := rgV i j) (sr.go g) hr (rg_den (i := i) (j := j))
      exact z _ _ (g.trans g2) dn⟩
theorem de_lstRgM2 (hg : Gl C.X "range") (hm : C.X.mg "range" = none) (hg2 : Gl C.X "list") (hm2 : C.X.mg "list" = none) (hc : C.X.calm = true) (ha : DPE C a ta) (hb : DPE C b tb)
    (na : starEach [a, b] C.X.env = (false, eval a C.X.env) :: starEach [b] C.X.env := by rfl) (nb : starEach [b] C.X.env = (false, eval b C.X.env) :: starEach [] C.X.env := by rfl) (hp : (backTo q2 (starEach [b] C.X.env)).any (·.1) = false := by rfl)
    (nc : starEach [.Call (.Name "range" p2) [a, b] [] q2] C.X.env = (false, eval (.Call (.Name "range" p2) [a, b] [] q2) C.X.env) :: starEach [] C.X.env := by rfl) :
    DPE C (.Call (.Name "list" p) [.Call (.Name "range" p2) [a, b] [] q2] [] pos) (dRgM ta tb) :=
  .of (mono_rgM ha.mono hb.mono) (pe_listRg hc hg2 hm2 (prg_2 hg hm ha.pe hb.pe na nb hp) nc) fun σ H Q ⟨τ, M, er, sr, q⟩ =>
    rg_two er sr ha hb q fun i j M' H' ok g z => ⟨ok.ok, fun r hr => by
      obtain ⟨g2, dn⟩ := new_lstM (xs := rgV i j) (sr.go g) hr (rg_den (i := i) (j := j))
      exact z r ((sr.go g).abs.free hr) _ _ (g.trans g2) dn⟩
/-- range of one end -/
theorem rg_one {σ : L2.St} {H : Hp} {K : Int → Int → Hp → Prop} {τ : Sd} {M : Mp} (er : EnvR C.X.K H M τ σ) (sr : SR C H M) {k : Int → Int → Mp → Prop} (ha : DPE C a ta)
    (q : dC (.int 0) τ M (fun x M1 => ta τ M1 (fun y M2 => rgTo x y fun i j => k i j M2) (xw C τ)) (xw C τ)) (hk : ∀ i j M' H', rgOk i j → Go C H M H' M' → k i j M' → K i j H') : tRg1 (liftE C ta) σ H K := by
  refine ⟨τ, M, er, sr, ha.mono τ M _ _ _ _ (fun y M2 w u H2 g2 d2 => ?_) (fun _ _ _ z => z) q⟩
  obtain ⟨i, j, e, rfl, ok, w⟩ := rgTo_of w
  cases e
  simp only [Den] at d2
  exact ⟨j, d2, hk 0 j M2 H2 ok g2 w⟩
theorem de_tupRg1 (hg : Gl C.X "range") (hm : C.X.mg "range" = none) (hg2 : Gl C.X "tuple") (hm2 : C.X.mg "tuple" = none) (hc : C.X.calm = true) (ha : DPE C a ta) (na : starEach [a] C.X.env = (false, eval a C.X.env) :: starEach [] C.X.env := by rfl)
    (nc : starEach [.Call (.Name "range" p2) [a] [] q2] C.X.env = (false, eval (.Call (.Name "range" p2) [a] [] q2) C.X.env) :: starEach [] C.X.env := by rfl) :
    DPE C (.Call (.Name "tuple" p) [.Call (.Name "range" p2) [a] [] q2] [] pos) (dRgT (dC (.int 0)) ta) :=
  .of (mono_rgT mono_c ha.mono) (pe_tupRg hc hg2 hm2 (prg_1 hg hm ha.pe na) nc) fun σ H Q ⟨τ, M, er, sr, q⟩ =>
    rg_one er sr ha q fun i j M' H' ok g z => ⟨ok.ok, fun r hr => by
      obtain ⟨g2, dn⟩ := den_rgT (i := i) (j := j) (sr.go g) hr
      exact z _ _ (g.trans g2) dn⟩
theorem de_lstRg1 (hg : Gl C.X "range") (hm : C.X.mg "range" = none) (hg2 : Gl C.X "list") (hm2 : C.X.mg "list" = none) (hc : C.X.calm = true) (ha : DPE C a ta) (na : starEach [a] C.X.env = (false, eval a C.X.env) :: starEach [] C.X.env := by rfl)
    (nc : starEach [.Call (.Name "range" p2) [a] [] q2] C.X.env = (false, eval (.Call (.Name "range" p2) [a] [] q2) C.X.env) :: starEach [] C.X.env := by rfl) :
    DPE C (.Call (.Name "list" p) [.Call (.Name "range" p2) [a] [] q2] [] pos) (dRgL (dC (.int 0)) ta) :=
  .of (mono_rgL mono_c ha.mono) (pe_listRg hc hg2 hm2 (prg_1 hg hm ha.pe na) nc) fun σ H Q ⟨τ, M, er, sr, q⟩ =>
    rg_one er sr ha q fun i j M' H' ok g z => ⟨ok.ok, fun r hr => by
      obtain ⟨g2, dn⟩ := new_lst (xs := rgV i j) (sr.go g) hr (rg_den (i := i) (j := j))
      exact z _ _ (g.trans g2) dn⟩
theorem de_lstRgM1 (hg : Gl C.X "range") (hm : C.X.mg "range" = none) (hg2 : Gl C.X "list") (hm2 : C.X.mg "list" = none) (hc : C.X.calm = true) (ha : DPE C a ta) (na : starEach [a] C.X.env = (false, eval a C.X.env) :: starEach [] C.X.env := by rfl)
    (nc : starEach [.Call (.Name "range" p2) [a] [] q2] C.X.env = (false, eval (.Call (.Name "range" p2) [a] [] q2) C.X.env) :: starEach [] C.X.env := by rfl) :
    DPE C (.Call (.Name "list" p) [.Call (.Name "range" p2) [a] [] q2] [] pos) (dRgM (dC (.int 0)) ta) :=
  .of (mono_rgM mono_c ha.mono) (pe_listRg hc hg2 hm2 (prg_1 hg hm ha.pe na) nc) fun σ H Q ⟨τ, M, er, sr, q⟩ =>
    rg_one er sr ha q fun i j M' H' ok g z => ⟨ok.ok, fun r hr => by
      obtain ⟨g2, dn⟩ := new_lstM (xs := rgV i j) (sr.go g) hr (rg_den (i := i) (j := j))
      exact z r ((sr.go g).abs.free hr) _ _ (g.trans g2) dn⟩
end
end DL
namespace DL
open PySem PySem.Spec PyProof.Rows L2
section
variable {C : DC} {e : Expr} {te : DE}
/-! ### xs[::-1] of a list -/
def dRevL (te : DE) : DE := fun τ M Q E => te τ M (fun d M1 => ok1 (itemsL M1 d) fun xs => Q (.lst xs.reverse) M1) E
theorem mono_revL (m : MonoE te) : MonoE (dRevL te) := fun τ M Q Q' E E' h he q => m τ M _ _ _ _ (fun d M1 => ok1_mono fun xs => h _ M1) he q
theorem de_revL {k : Nat} {p1 p2 p3 pos : Pos} (he : DPE C e te) : DPE C (.Subscript e (.Slice none none (some (.UnaryOp .USub (.Constant (.int 1) k p1) p2)) p3) pos) (dRevL te) :=
  ⟨mono_revL he.mono, fun pins s σ H τ M Q I er sr q => by
  refine thn ((pe_revL he.pe).run pins s σ H (fun w H' => ∃ d M', Go C H M H' M' ∧ Den C.X.K H' M' d w ∧ Q d M') I ?_) fun u s' ⟨v, H', I', r, d, M', g, dn, q'⟩ => ⟨v, H', d, M', I', r, g, dn, q'⟩
  refine ⟨τ, M, er, sr, he.mono _ _ _ _ _ _ (fun d M1 z v H1 g1 dn => ?_) (fun _ _ _ z => z) q⟩
  obtain ⟨xs, ex, z⟩ := ok1_ex z
  obtain ⟨e1, e2⟩ := itemsL_of ex
  have sr1 := sr.go g1
  obtain ⟨a, vs, rfl, l, h⟩ := seq_of sr1.abs dn e1
  rcases h with ⟨⟨zs, hz⟩, _⟩ | ⟨_, sq, _⟩
  · exact absurd hz (e2 zs)
  · refine ⟨a, vs, rfl, sq, fun p hp => ?_⟩
    obtain ⟨g2, d2⟩ := new_lst sr1 hp l.reverse
    exact ⟨_, M1, g1.trans g2, d2, z⟩⟩
end
end DL

/-! t[::-1], t[k::-1] of a tuple; of a list. -/
namespace DL
open PySem PySem.Spec PyProof.Rows L2
/-- where x[lo::-1] begins, and how many -/
def revN (n : Nat) : Option Nat → Nat
  | none => n
  | some k => min (k + 1) n
theorem fm_congr {α β : Type} {f g : α → Option β} : ∀ {l : List α}, (∀ x ∈ l, f x = g x) → l.filterMap f = l.filterMap g
  | [], _ => rfl
  | x :: r, h => by
    rw [List.filterMap_cons, List.filterMap_cons, h x List.mem_cons_self, fm_congr fun y hy => h y (List.mem_cons_of_mem _ hy)]
theorem pick_rev (xs : Array Value) (c : Nat) (st : Int) (h : st = (c : Int) - 1) : ((List.range c).filterMap fun (m : Nat) => xs[(st + (m : Int) * (-1)).toNat]?).toArray = (xs.toList.take c).reverse.toArray := by
  have e1 : ((List.range c).filterMap fun (m : Nat) => xs[(st + (m : Int) * (-1)).toNat]?) = (List.range c).filterMap fun m => xs[c - 1 - m]? :=
    fm_congr fun m hm => by
      have := List.mem_range.mp hm
      rw [show (st + (m : Int) * (-1)).toNat = c - 1 - m by omega]
  have e2 : ((List.range c).filterMap fun m => xs[c - 1 - m]?) = ((List.range c).map fun m => c - 1 - m).filterMap fun m => xs[m]? := by rw [List.filterMap_map]; rfl
  have e3 := pick_run xs 0 c
  have e4 : ((List.range c).map (0 + ·)) = List.range c := by
    rw [show ((0 + ·) : Nat → Nat) = id from funext fun k => Nat.zero_add k, List.map_id]
  rw [e4, List.drop_zero] at e3
  rw [e1, e2, PySem.W.krv_range, List.filterMap_reverse, e3]
section
variable {prog : Program} {w : World} {A : Around} {E : Value → Shared → Prop} {s : Shared}
theorem sliceApplied_rev {sl : Addr} {vl vu vs : Value} {lo : Option Nat} {n : Nat} {Q : Int × Int × Nat → Shared → Prop} (hs : s.heap.IsSliceOf sl vl vu vs) (pl : IsPart vl (lo.map Int.ofNat)) (pu : IsPart vu none) (ps : IsPart vs (some (-1)))
    (h : Q ((revN n lo : Nat) - 1, -1, revN n lo) s) : wpAny (model prog w) A (Builtin.Slice.sliceApplied (.ref sl) (pure (n : Int))) Q E s := by
  obtain ⟨os, hos, hcs, hds⟩ := id hs
  unfold Builtin.Slice.sliceApplied Builtin.Slice.sliceFields
  refine wpAny_bind (wpAny_bind (wpAny_field hos hds (x := vl) rfl (wpAny_bind (wpAny_field hos hds (x := vu) rfl (wpAny_bind (wpAny_field hos hds (x := vs) rfl (wpAny_pure ?_)))))))
  refine wpAny_bind (HT.slicePart_ ps ?_)
  show wpAny _ _ (if ((-1 : Int) == 0) = true then _ else _) _ _ s
  rw [if_neg (by decide)]
  refine wpAny_bind (HT.slicePart_ pl (wpAny_bind (HT.slicePart_ pu (wpAny_bind (wpAny_pure ?_)))))
  have ea : Builtin.Slice.sliceAdjust (lo.map Int.ofNat) none (-1) (n : Int) = ((revN n lo : Int) - 1, -1) := by
    unfold Builtin.Slice.sliceAdjust
    cases lo with
    | none => simp [revN]
    | some k =>
      simp [revN]
      omega
  have ep : Builtin.Slice.slicePlaces ((revN n lo : Int) - 1) (-1) (-1) = revN n lo := by
    unfold Builtin.Slice.slicePlaces
    simp
    omega
  show wpAny _ _ (match Builtin.Slice.sliceAdjust (lo.map Int.ofNat) none (-1) (n : Int) with | (lo, hi) => pure (lo, (-1 : Int), Builtin.Slice.slicePlaces lo hi (-1))) _ _ s
  rw [ea]
  show wpAny _ _ (pure ((revN n lo : Int) - 1, (-1 : Int), Builtin.Slice.slicePlaces ((revN n lo : Int) - 1) (-1) (-1))) _ _ s
  rw [ep]
  exact wpAny_pure h
theorem getItem_tuple_rev {t sl : Addr} {items : Array Value} {vl vu vs : Value} {lo : Option Nat} {Q : Value → Shared → Prop} (ht : IsTup s.heap t items) (hs : s.heap.IsSliceOf sl vl vu vs) (pl : IsPart vl (lo.map Int.ofNat)) (pu : IsPart vu none) (ps : IsPart vs (some (-1)))
    (h : Q (.ref s.heap.objs.size) { s with heap := s.heap.push { cls := .type "tuple", data := .seq (items.toList.take (revN items.size lo)).reverse.toArray } })
    (hsz : items.size ≤ sizeLine) : wpAny (model prog w) A (getItem (.ref t) (.ref sl)) Q E s := by
  have htake : sizeOk (.seq (items.toList.take (revN items.size lo)).reverse.toArray) := by
    show (items.toList.take (revN items.size lo)).reverse.toArray.size ≤ sizeLine
    rw [List.size_toArray, List.length_reverse, List.length_take, Array.length_toList]
    omega
  obtain ⟨os, hos, hcs, hds⟩ := id hs
  have hTs : s.TypeIs (.ref sl) "slice" := ⟨os, hos, hcs⟩
  unfold getItem
  try with_reducible refine wpAny_holding ?_
  first | refine wpAny_bind (wpAny_pure ?_) | skip
  refine wpAny_bind (wpAny_sequenceKey ht.typeIs (by decide) ?_)
  refine wpAny_bind (wpAny_callSpecial?_slot (name := Str.ofString "__getitem__") ht.typeIs PyProof.Rows.slot_tuple_getitem
    (wpAny_call_entry PyProof.Rows.slot_tuple_getitem ht.typeIs entry_tuple_getitem ?_ (args_tuple_getitem _ _)))
  show wpAny _ _ (Builtin.Tuple.tupleItemsOf (.ref t) >>= _) _ _ s
  refine wpAny_bind (tupleItemsOf_ ht ?_)
  refine wpAny_bind (wpAny_typeOf hTs ?_)
  rw [if_pos (by decide)]
  refine wpAny_bind (sliceApplied_rev hs pl pu ps ?_)
  have hno : ¬ ((((revN items.size lo : Int) - 1) == 0 && (-1 : Int) == 1 && revN items.size lo == items.size) = true) := by
    rw [show ((-1 : Int) == 1) = false from rfl, Bool.and_false, Bool.false_and]
    exact Bool.false_ne_true
  show wpAny _ _ (if (((revN items.size lo : Int) - 1) == 0 && (-1 : Int) == 1 && revN items.size lo == items.size) = true then _ else _) _ _ s
  rw [if_neg hno, pick_rev _ _ _ rfl]
  first
    | exact wpAny_bind (m := Builtin.Tuple.tupleExact _) (wpAny_newObj_type (wpAny_pure ⟨_, rfl, wpAny_pure h⟩) htake)
    | exact wpAny_bind (m := Builtin.Tuple.tupleExact _) (wpAny_newObj_type (wpAny_bind (wpAny_pure (wpAny_pure ⟨_, rfl, wpAny_pure h⟩))) htake)
    | exact wpAny_bind (wpAny_bind (m := Builtin.Tuple.tupleExact _) (wpAny_newObj_type (wpAny_pure (wpAny_pure ⟨_, rfl, wpAny_pure h⟩)) htake))
    | exact wpAny_bind (wpAny_bind (m := Builtin.Tuple.tupleExact _) (wpAny_newObj_type (wpAny_pure ⟨_, rfl, wpAny_pure h⟩) htake))
end
section
variable {X : Cx}
def tRevA (K : PySem.W.Frag) (lo : Option Nat) (te : TE) : TE := fun σ H Q => te σ H fun x H1 => ∃ a xs, x = .ref a ∧ ((SqT K H1 a xs ∧ ∀ p, H1 p = none → Q (.ref p) (upd H1 p (.tup (xs.take (revN xs.length lo)).reverse))) ∨
  (lo = none ∧ SqL K H1 a xs ∧ ∀ p, H1 p = none → Q (.ref p) (upd H1 p (.lst xs.reverse))))
theorem pe_revA {e : Expr} {te : TE} {k : Nat} {p1 p2 p3 pos : Pos} {lo : Option Nat} {le : Option Expr} {tl : TO} (he : PE X e te) (hl : PO X le tl) (htl : ∀ σ H, tl σ H fun o H2 => o = lo.map Int.ofNat ∧ H2 = H) (hle : le = none ∨ ∃ z, le = some z) : PE X (.Subscript e (.Slice le none (some (.UnaryOp .USub (.Constant (.int 1) k p1) p2)) p3) pos) (tRevA X.K lo te) := by
  refine ⟨fun pins s σ H Q I h => ?_⟩
  refine Subscript_ (thn (he.run pins s σ H _ I h) fun v s1 ⟨x, H1, I1, r1, q1⟩ => ?_)
  obtain ⟨a, xs, ex, hx⟩ := q1
  subst ex
  cases r1
  have hst : PO X (some (.UnaryOp .USub (.Constant (.int 1) k p1) p2)) (tPart (tUn (rU fun i => .int (-i)) (tC (.int 1)))) := po_some (pe_un un_neg pe_int)
  refine wpAny_Slice (thn (hl.run pins s1 σ H1 (fun o H2 => o = lo.map Int.ofNat ∧ H2 = H1) I1 (htl σ H1)) fun vl s2 ⟨l, H2, I2, pl, el, e2⟩ => ?_)
  subst el e2
  refine thn (po_none.run pins s2 σ H2 (fun o H3 => o = none ∧ H3 = H2) I2 ⟨rfl, rfl⟩) fun vu s3 ⟨u, H3, I3, pu, eu, e3⟩ => ?_
  subst eu e3
  refine thn (hst.run pins s3 σ H3 (fun o H4 => o = some (-1) ∧ H4 = H3) I3 ⟨1, rfl, -1, rfl, rfl, rfl⟩) fun vs s4 ⟨o, H4, I4, ps, eo, e4⟩ => ?_
  subst eo e4
  have I5 : Inv X pins σ H4 { s4 with heap := s4.heap.push { cls := .type "slice", data := .fields #[vl, vu, vs] } } := I4.kept (t' := s4.toks) fun b ob q => Heap.get?_push_of_some _ q
  rcases hx with ⟨hx, q⟩ | ⟨rfl, hx, q⟩
  · obtain ⟨its, r, ht, hz⟩ := I5.tuple hx
    have hlen : its.toArray.size = xs.length := by rw [List.size_toArray]; exact r.length.symm
    show wpAny (model X.prog X.w) X.A (subscriptTail e (.Slice le none (some (.UnaryOp .USub (.Constant (.int 1) k p1) p2)) p3) (.ref a) (.ref s4.heap.objs.size)) (EP X pins σ Q) X.xe { s4 with heap := s4.heap.push { cls := .type "slice", data := .fields #[vl, vu, vs] } }
    refine tail_any (ops := [.ref a, .ref s4.heap.objs.size]) ht.typeIs (PyProof.Rows.slot_tuple_getitem.lookup) ?_ (by rcases hle with rfl | ⟨z, rfl⟩ <;> with_unfolding_all rfl)
    refine getItem_tuple_rev ht (Heap.IsSliceOf.new _ vl vu vs) pl pu ps ?_ (by rw [hlen]; exact hz)
    refine ⟨.ref _, _, I5.laid (t' := s4.toks) (o := .tup (xs.take (revN xs.length lo)).reverse) (fun b ob q => Heap.get?_push_of_some _ q) (Nat.le_refl _) ?_, rfl, q _ (I5.hok.fresh (Nat.le_refl _))⟩
    rw [hlen]
    exact ⟨by rw [List.length_reverse, List.length_take]; omega, _, (r.take _).reverse, IsTup.new _ _⟩
  · obtain ⟨its, r, ht, hz⟩ := I5.list hx
    have hlen := r.length
    show wpAny (model X.prog X.w) X.A (subscriptTail e (.Slice le none (some (.UnaryOp .USub (.Constant (.int 1) k p1) p2)) p3) (.ref a) (.ref s4.heap.objs.size)) (EP X pins σ Q) X.xe { s4 with heap := s4.heap.push { cls := .type "slice", data := .fields #[vl, vu, vs] } }
    refine tail_any (ops := [.ref a, .ref s4.heap.objs.size]) ht.isList.typeIs (PySem.slot_list_getitem.lookup) ?_ (by rcases hle with rfl | ⟨z, rfl⟩ <;> with_unfolding_all rfl)
    refine wpAny_getItem_list_slice ht.isList (Heap.IsSliceOf.new _ vl vu vs) pl pu ps (by decide) ?_ (by rw [List.size_toArray]; omega)
    show (EP X pins σ Q) _ { s4 with heap := _ }
    rw [show (Option.map Int.ofNat (none : Option Nat)) = none from rfl, PySem.W.krv_pick]
    refine ⟨.ref _, _, I5.laid (t' := s4.toks) (o := .lst xs.reverse) (fun b ob q => Heap.get?_push_of_some _ q) (Nat.le_refl _) ?_, rfl, q _ (I5.hok.fresh (Nat.le_refl _))⟩
    exact ⟨by rw [List.length_reverse]; exact hz, _, 0, r.reverse, Heap.get?_push_size _ rfl⟩
end
/-- d[lo::-1] -/
def revD (M : Mp) (lo : Option Nat) (d : D) : Option D := match d with
  | .tup xs => some (.tup (xs.take (revN xs.length lo)).reverse)
  | d => match lo with
    | none => (itemsL M d).map fun xs => .lst xs.reverse
    | some _ => none
def dRev (lo : Option Nat) (te : DE) : DE := fun τ M Q E => te τ M (fun d M1 => ok1 (revD M1 lo d) fun z => Q z M1) E
theorem mono_rev {lo : Option Nat} {te : DE} (m : MonoE te) : MonoE (dRev lo te) := fun τ M Q Q' E E' h he q => m τ M _ _ _ _ (fun d M1 => ok1_mono fun z => h z M1) he q
section
variable {C : DC} {e : Expr} {te : DE}
theorem de_rev_ {k : Nat} {p1 p2 p3 pos : Pos} {lo : Option Nat} {le : Option Expr} {tl : TO} (he : DPE C e te) (hl : PO C.X le tl) (htl : ∀ σ H, tl σ H fun o H2 => o = lo.map Int.ofNat ∧ H2 = H) (hle : le = none ∨ ∃ z, le = some z) : DPE C (.Subscript e (.Slice le none (some (.UnaryOp .USub (.Constant (.int 1) k p1) p2)) p3) pos) (dRev lo te) :=
  ⟨mono_rev he.mono, fun pins s σ H τ M Q I er sr q => by
  refine thn ((pe_revA he.pe hl htl hle).run pins s σ H (fun w H' => ∃ d M', Go C H M H' M' ∧ Den C.X.K H' M' d w ∧ Q d M') I ?_) fun u s' ⟨v, H', I', r, d, M', g, dn, q'⟩ => ⟨v, H', d, M', I', r, g, dn, q'⟩
  refine ⟨τ, M, er, sr, he.mono _ _ _ _ _ _ (fun d M1 z v H1 g1 dn => ?_) (fun _ _ _ z => z) q⟩
  obtain ⟨y, ey, z⟩ := ok1_ex z
  have sr1 := sr.go g1
  by_cases ht : ∃ xs, d = .tup xs
  · obtain ⟨xs, rfl⟩ := ht
    cases ey
    obtain ⟨a, vs, rfl, l, h⟩ := seq_of sr1.abs dn (show items M1 (.tup xs) = some xs from rfl)
    rcases h with ⟨_, sq, _⟩ | ⟨no, _⟩
    · refine ⟨a, vs, rfl, .inl ⟨sq, fun p hp => ?_⟩⟩
      have l2 : DenL C.X.K H1 M1 (xs.take (revN xs.length lo)).reverse (vs.take (revN vs.length lo)).reverse := by
        rw [l.length]
        exact (l.take _).reverse
      obtain ⟨g2, d2⟩ := new_tup sr1 hp l2
      exact ⟨_, M1, g1.trans g2, d2, z⟩
    · exact absurd rfl (no xs)
  · have ey' : lo = none ∧ ∃ xs, itemsL M1 d = some xs ∧ y = .lst xs.reverse := by
      cases d <;> cases lo <;> simp only [revD, reduceCtorEq, Option.map_eq_some_iff] at ey <;> first | exact absurd ⟨_, rfl⟩ ht | (obtain ⟨xs, e1, rfl⟩ := ey; exact ⟨rfl, xs, e1, rfl⟩)
    obtain ⟨rfl, xs, ex, rfl⟩ := ey'
    obtain ⟨e1, e2⟩ := itemsL_of ex
    obtain ⟨a, vs, rfl, l, h⟩ := seq_of sr1.abs dn e1
    rcases h with ⟨⟨zs, hz⟩, _⟩ | ⟨_, sq, _⟩
    · exact absurd hz (e2 zs)
    · refine ⟨a, vs, rfl, .inr ⟨rfl, sq, fun p hp => ?_⟩⟩
      obtain ⟨g2, d2⟩ := new_lst sr1 hp l.reverse
      exact ⟨_, M1, g1.trans g2, d2, z⟩⟩
theorem de_rev {k : Nat} {p1 p2 p3 pos : Pos} (he : DPE C e te) : DPE C (.Subscript e (.Slice none none (some (.UnaryOp .USub (.Constant (.int 1) k p1) p2)) p3) pos) (dRev none te) :=
  de_rev_ he po_none (fun σ H => ⟨rfl, rfl⟩) (.inl rfl)
theorem de_revAt {k n kn : Nat} {p0 p1 p2 p3 pos : Pos} (he : DPE C e te) : DPE C (.Subscript e (.Slice (some (.Constant (.int (Int.ofNat n)) kn p0)) none (some (.UnaryOp .USub (.Constant (.int 1) k p1) p2)) p3) pos) (dRev (some n) te) :=
  de_rev_ he (po_some pe_int) (fun σ H => ⟨_, rfl, rfl, rfl⟩) (.inr ⟨_, rfl⟩)
end
end DL

/-! zip of any two of lists and tuples. -/
namespace DL
open PySem PySem.Spec PyProof.Rows L2
/-- a tuple (true), a list (false) -/
def ItK : Bool → Heap → Addr → Addr → Nat → Prop
  | true, h, it, a, i => h.IsTupleIter it a i
  | false, h, it, a, i => h.IsListIter it a i
def SqK : Bool → Heap → Addr → Array Value → Prop
  | true, h, a, xs => h.IsTuple a xs
  | false, h, a, xs => h.IsList a xs
def SqV (K : PySem.W.Frag) : Bool → Hp → Addr → List V → Prop
  | true, H, a, xs => SqT K H a xs
  | false, H, a, xs => SqL K H a xs
def itO (κ : Bool) (a : Addr) : Obj := { cls := .type (if κ then "tuple_iterator" else "list_iterator"), data := .fields #[.ref a, .int 0 0] }
section
variable {prog : Program} {w : World} {A : Around} {E : Value → Shared → Prop} {s : Shared} {κ : Bool} {h h' : Heap} {it a : Addr} {i : Nat} {xs : Array Value}
theorem ItK.obj (st : ItK κ h it a i) : ∃ o, h.get? it = some o ∧ ∀ v, o.data ≠ .cell v := by
  cases κ <;> (obtain ⟨o, e, _, d⟩ := st; exact ⟨o, e, fun v q => by rw [d] at q; cases q⟩)
theorem ItK.at (st : ItK κ h it a i) (k : ∀ o, h.get? it = some o → h'.get? it = some o) : ItK κ h' it a i := by
  cases κ
  · exact Heap.IsListIter.at st k
  · exact Heap.IsTupleIter.at st k
theorem SqK.at (st : SqK κ h a xs) (k : ∀ o, h.get? a = some o → h'.get? a = some o) : SqK κ h' a xs := by
  cases κ
  · exact Heap.IsList.at st k
  · exact Heap.IsTuple.at st k
theorem begins_k (a : Addr) (xs : Array Value) : Begins (.ref a) (itO κ a) fun h => SqK κ h a xs := by
  cases κ
  · exact begins_list a xs
  · exact begins_tuple a xs
theorem itK0 (e : h.get? it = some (itO κ a)) : ItK κ h it a 0 := by
  cases κ <;> exact ⟨_, e, rfl, rfl⟩
/-- what it draws from place i on -/
theorem draws_k (hh : A.handled = none) (hne : a ≠ it) (i : Nat) : Draws prog w A it [it, a] (xs.size - i) (fun j v => xs[i + j]? = some v) (fun j h => ItK κ h it a (i + j) ∧ SqK κ h a xs) where
  live := fun _ _ st => let ⟨o, ho, _⟩ := st.1.obj; ⟨o, ho⟩
  frame := fun _ _ _ st hk => ⟨st.1.at fun o e => hk it (by simp) o e, st.2.at fun o e => hk a (by simp) o e⟩
  item := fun j s Q E hj st hQ => by
    have hl : i + j < xs.size := by omega
    cases κ
    · refine wpAny_nextOf_list_item st.1 st.2 (x := xs[i + j]) (by simp [hl]) fun h' hit' hs' => ?_
      exact hQ _ h' s.toks (by simp [hl]) ⟨hit', Heap.IsList.extBut st.2 hs'.extBut hne⟩ hs'
    · refine wpAny_nextOf_tuple_item st.1 st.2 (x := xs[i + j]) (by simp [hl]) fun h' hit' hs' => ?_
      exact hQ _ h' s.toks (by simp [hl]) ⟨hit', Heap.IsTuple.extBut st.2 hs'.extBut hne⟩ hs'
  done := fun s Q E st hE => by
    cases κ
    · exact wpAny_nextOf_list_end hh st.1 st.2 (by simp; omega) hE
    · exact wpAny_nextOf_tuple_end hh st.1 st.2 (by simp; omega) hE
end
section
variable {X : Cx} {pins : List (Addr × Obj)} {σ : L2.St} {H : Hp} {s : Shared} {κ : Bool} {a : Addr} {xs : List V}
theorem inv_k (I : Inv X pins σ H s) (h : SqV X.K κ H a xs) : ∃ its, Vals xs its ∧ SqK κ s.heap a its.toArray ∧ xs.length ≤ sizeLine ∧ a < s.heap.objs.size := by
  cases κ
  · obtain ⟨its, rv, p, hz⟩ := I.list h
    exact ⟨its, rv, p.isList, hz, p.lt⟩
  · obtain ⟨its, rv, p, hz⟩ := I.tuple h
    obtain ⟨o, ho, _⟩ := id p
    exact ⟨its, rv, p, hz, Heap.lt_size ho⟩
theorem inj_k {ys : List V} (I : Inv X pins σ H s) (h : SqV X.K κ H a xs) (h2 : SqV X.K κ H a ys) : ys = xs := by
  cases κ
  · exact I.list_inj h2 h
  · exact I.tuple_inj h2 h
end
def Itk (K : PySem.W.Frag) (κ1 κ2 : Bool) (a b : Addr) : It :=
  ⟨fun i H => ∃ (xs ys : List V) (x y : V), SqV K κ1 H a xs ∧ SqV K κ2 H b ys ∧ xs[i]? = some x ∧ ys[i]? = some y,
    fun i H v H' => ∃ T x y, v = .ref T ∧ H T = none ∧ H' = upd H T (.tup [x, y]) ∧ (∀ xs, SqV K κ1 H a xs → xs[i]? = some x) ∧ ∀ ys, SqV K κ2 H b ys → ys[i]? = some y,
    fun i H => ∃ xs ys : List V, SqV K κ1 H a xs ∧ SqV K κ2 H b ys ∧ (xs.length ≤ i ∨ ys.length ≤ i)⟩
theorem turn_zipK {P : Program} {w : World} {K : PySem.W.Frag} {elts : List Expr} {kk : Nat} {tpos : Pos} {κ1 κ2 : Bool} {a b z TI TO i1 i2 : Addr} (D : ZipSep2 z TI TO i1 i2 [i1, a] [i2, b]) (ha : a ≠ i1) (hb : b ≠ i2) :
    Turn P w K (.Tuple elts kk tpos) (Itk K κ1 κ2 a b) [z, TI, TO, i1, i2] z (fun i h => IsZip h z TI TO .none ∧ IsTupOf2 h TI (.ref i1) (.ref i2) ∧ (∃ x y, IsTupOf2 h TO x y) ∧ ItK κ1 h i1 a i ∧ ItK κ2 h i2 b i) where
  mem := by simp
  obj := fun i h st c hc => by
    obtain ⟨hz, hTI, ⟨x, y, hTO⟩, h1, h2⟩ := st
    have e' : c = z ∨ c = TI ∨ c = TO ∨ c = i1 ∨ c = i2 := by simpa using hc
    rcases e' with q | q | q | q | q
    · rw [q]; exact ⟨_, hz, fun v q => nomatch q⟩
    · rw [q]; exact ⟨_, hTI, fun v q => nomatch q⟩
    · rw [q]; exact ⟨_, hTO, fun v q => nomatch q⟩
    · rw [q]; exact h1.obj
    · rw [q]; exact h2.obj
  keep := fun i h h' st k => by
    obtain ⟨hz, hTI, ⟨x, y, hTO⟩, h1, h2⟩ := st
    exact ⟨k z (by simp) _ hz, k TI (by simp) _ hTI, ⟨x, y, k TO (by simp) _ hTO⟩, h1.at fun o q => k i1 (by simp) o q, h2.at fun o q => k i2 (by simp) o q⟩
  item := by
    intro X hP hw hK hc i pins s σ H E I hf st hg
    subst hP hw hK
    obtain ⟨hz, hTI, ⟨x0, y0, hTO⟩, h1, h2⟩ := st
    obtain ⟨xs, ys, x, y, hqx, hqy, hx, hy⟩ := hg
    obtain ⟨its, rv, p, _, _⟩ := inv_k I hqx
    obtain ⟨its2, rv2, p2, _, _⟩ := inv_k I hqy
    obtain ⟨u, hu, ru⟩ := rv.get hx
    obtain ⟨u2, hu2, ru2⟩ := rv2.get hy
    have hzl : z < s.heap.objs.size := Heap.lt_size hz
    have hh : X.A.in1.handled = none := I.ok.hd hc
    have n1 : 0 < its.toArray.size - i := by
      obtain ⟨q, _⟩ := List.getElem?_eq_some_iff.mp hu
      rw [List.size_toArray]; omega
    have n2 : 0 < its2.toArray.size - i := by
      obtain ⟨q, _⟩ := List.getElem?_eq_some_iff.mp hu2
      rw [List.size_toArray]; omega
    refine wpAny_pyNext_zipD2_item (i := 0) D (draws_k (κ := κ1) (xs := its.toArray) hh ha i) (draws_k (κ := κ2) (xs := its2.toArray) hh hb i) hz hTI hTO ⟨h1, p⟩ ⟨h2, p2⟩ n1 n2 fun v1 v2 h' tk e1 e2 z' TO' h1' h2' hT hsz hk => ?_
    obtain rfl : v1 = u := by
      have e1' : its[i]? = some v1 := by simpa using e1
      rw [hu] at e1'; exact (Option.some.inj e1').symm
    obtain rfl : v2 = u2 := by
      have e2' : its2[i]? = some v2 := by simpa using e2
      rw [hu2] at e2'; exact (Option.some.inj e2').symm
    refine ⟨_, rfl, wpAny_letOwnedTupleGo_zip (s := { s with heap := h', toks := tk }) z' fun h'' z'' sb => ?_⟩
    have hT2 : h''.get? s.heap.objs.size = some { cls := .type "tuple", data := .seq #[v1, v2] } := (sb.2 _ (Nat.ne_of_gt hzl)).trans hT
    have new : ObjOk X.prog X.w (upd H s.heap.objs.size (.tup [x, y])) h'' s.heap.objs.size (.tup [x, y]) :=
      ⟨by show 2 ≤ sizeLine; decide, [v1, v2], .cons ru (.cons ru2 .nil), ⟨_, hT2, rfl, _, rfl⟩⟩
    have I1 : Inv X pins σ (upd H s.heap.objs.size (.tup [x, y])) { s with heap := h'', toks := tk } :=
      I.turnedNew (t' := tk) (ch := [z, TI, TO, i1, i2]) (fun c o hb q => (sb.2 c (fun q' => hb (by simp [q']))).trans (hk c o (fun q' => hb (by simp [q'])) (fun q' => hb (by simp [q'])) (fun q' => hb (by simp [q'])) (fun q' => hb (by simp [q'])) q)) hf (Nat.le_refl _) new
    refine ⟨.ref s.heap.objs.size, _, I1, rfl, ⟨_, x, y, rfl, I.hok.fresh (Nat.le_refl _), rfl, fun l hl => by rw [inj_k I hqx hl]; exact hx, fun l hl => by rw [inj_k I hqy hl]; exact hy⟩, ⟨z'', ?_, ⟨v1, v2, ?_⟩, ?_, ?_⟩, fun c hcm => ?_⟩
    · exact (sb.2 _ D.TIz).trans (hk _ _ D.TIz D.TITO D.TIi1 D.TIi2 hTI)
    · exact (sb.2 _ D.TOz).trans TO'
    · exact h1'.1.at fun o q => (sb.2 _ (Ne.symm D.zi1)).trans q
    · exact h2'.1.at fun o q => (sb.2 _ (Ne.symm D.zi2)).trans q
    · have hlt : c < s.heap.objs.size := by
        have e' : c = z ∨ c = TI ∨ c = TO ∨ c = i1 ∨ c = i2 := by simpa using hcm
        rcases e' with q | q | q | q | q
        · rw [q]; exact hzl
        · rw [q]; exact Heap.lt_size hTI
        · rw [q]; exact Heap.lt_size hTO
        · rw [q]; obtain ⟨_, e1, _⟩ := h1.obj; exact Heap.lt_size e1
        · rw [q]; obtain ⟨_, e2, _⟩ := h2.obj; exact Heap.lt_size e2
      rw [upd_ne (Nat.ne_of_lt hlt)]
      exact (hf c hcm).1
  done := by
    intro X hP hw hK hc i pins s σ H E I hf st hg
    subst hP hw hK
    obtain ⟨hz, hTI, ⟨x0, y0, hTO⟩, h1, h2⟩ := st
    obtain ⟨xs, ys, hqx, hqy, hend⟩ := hg
    obtain ⟨its, rv, p, _, _⟩ := inv_k I hqx
    obtain ⟨its2, rv2, p2, _, _⟩ := inv_k I hqy
    have l1 := rv.length
    have l2 := rv2.length
    have hh : X.A.in1.handled = none := I.ok.hd hc
    refine wpAny_pyNext_zipD2_end (i := 0) D (draws_k (κ := κ1) (xs := its.toArray) hh ha i) (draws_k (κ := κ2) (xs := its2.toArray) hh hb i) hz hTI hTO ⟨h1, p⟩ ⟨h2, p2⟩ (Nat.zero_le _) (Nat.zero_le _) ?_ fun h' tk hk => ⟨rfl, I.turnedL (t' := tk) (ch := [z, TI, TO, i1, i2]) (fun c o hb q =>
      hk c o (fun q' => hb (by simp [q'])) (fun q' => hb (by simp [q'])) (fun q' => hb (by simp [q'])) (fun q' => hb (by simp [q'])) q) hf⟩
    rcases hend with q | q
    · exact .inl (by rw [List.size_toArray]; omega)
    · exact .inr (by rw [List.size_toArray]; omega)
  self := fun A i s Q E st h => wpAny_pyIter_zip st.1 h
def iZipKA (K : PySem.W.Frag) (ta : TA) : TI := fun σ H R => ta σ H fun vs H1 => ∃ a b xs ys κ1 κ2, vs = [.ref a, .ref b] ∧ SqV K κ1 H1 a xs ∧ SqV K κ2 H1 b ys ∧ R (Itk K κ1 κ2 a b) H1
theorem pi_zipK {X : Cx} {e e2 : Expr} {ta : TA} {p pos tpos : Pos} {elts : List Expr} {kk : Nat} (hg : Gl X "zip") (hm : X.mg "zip" = none) (ha : PA X [e, e2] ta)
    (hs : starEach [e, e2] X.env = (false, eval e X.env) :: starEach [e2] X.env := by rfl) (hpl : (backTo pos (starEach [e2] X.env)).any (·.1) = false := by rfl) :
    PI X (.Tuple elts kk tpos) (.Call (.Name "zip" p) [e, e2] [] pos) (iZipKA X.K ta) := by
  refine ⟨fun pins s σ H R I h => ?_⟩
  refine Call_ (ld_blt I hg hm PyProof.Rows.boot_zip (PyProof.Rows.callWith_type1 (thn (ha.run pos pins s σ H _ I h) fun us s1 ⟨vs, H1, I1, r1, q1⟩ => ?_) hs hpl))
  obtain ⟨a, b, xs, ys, κ1, κ2, ex, hqx, hqy, q⟩ := q1
  subst ex
  cases r1 with
  | cons r rr =>
    cases rr with
    | cons r' rr =>
      cases rr
      cases r
      cases r'
      have fresh5 : ∀ c, c ∈ [s1.heap.objs.size + 4, s1.heap.objs.size + 2, s1.heap.objs.size + 3, s1.heap.objs.size, s1.heap.objs.size + 1] → FpOk X pins H1 c := fun c hcm => by
        have e' : c = s1.heap.objs.size + 4 ∨ c = s1.heap.objs.size + 2 ∨ c = s1.heap.objs.size + 3 ∨ c = s1.heap.objs.size ∨ c = s1.heap.objs.size + 1 := by simpa using hcm
        have hle : s1.heap.objs.size ≤ c := by
          rcases e' with z | z | z | z | z
          · rw [z]; exact Nat.le_add_right _ _
          · rw [z]; exact Nat.le_add_right _ _
          · rw [z]; exact Nat.le_add_right _ _
          · rw [z]; exact Nat.le_refl _
          · rw [z]; exact Nat.le_add_right _ _
        exact I1.fpOk hle (I1.hok.fresh hle)
      obtain ⟨its, rv, p1, _, l1⟩ := inv_k I1 hqx
      obtain ⟨its2, rv2, p2, _, l2⟩ := inv_k I1 hqy
      refine zip_begins2 (begins_k (κ := κ1) a its.toArray) (begins_k (κ := κ2) b its2.toArray) p1 p2 fun h' hz hTI hTO h1 h2 hsz hk => wpAny_pyIter_zip hz ?_
      have I2 : Inv X pins σ H1 { s1 with heap := h' } := I1.kept (t' := s1.toks) hk
      exact ⟨s1.heap.objs.size + 4, [s1.heap.objs.size + 4, s1.heap.objs.size + 2, s1.heap.objs.size + 3, s1.heap.objs.size, s1.heap.objs.size + 1], _, _, H1, rfl, I2, turn_zipK (zip_sep2 (fp1 := [a]) (fp2 := [b]) (fun c hc => by rw [List.mem_singleton.mp hc]; exact l1) (fun c hc => by rw [List.mem_singleton.mp hc]; exact l2)) (Nat.ne_of_lt l1) (Nat.ne_of_lt (Nat.lt_succ_of_lt l2)),
        ⟨hz, hTI, ⟨_, _, hTO⟩, itK0 h1, itK0 h2⟩, fresh5, q⟩
def iZip2 (ta : DA) : DI := fun τ M Q E => ta τ M (fun ds M1 => match ds with
  | [x, y] => ok1 (items M1 x) fun xs => ok1 (items M1 y) fun ys => Q (pairs xs ys) (fun N => okOf x xs N ∧ okOf y ys N) M1
  | _ => False) E
theorem monoI_zip2 {t : DA} (m : MonoA t) : MonoI (iZip2 t) := fun τ M Q Q' E E' h he q => m τ M _ _ _ _ (fun ds M1 z => by
  revert z
  split
  · exact ok1_mono (fun xs => ok1_mono fun ys => h _ _ _)
  · exact id) he q
section
variable {C : DC} {e a b c tg : Expr} {es elts : List Expr} {p pos tpos : Pos} {te ta tb : DE} {kk : Nat}
/-- a sequence at an address, of its kind -/
theorem seq_k {H : Hp} {M : Mp} {d : D} {xs : List D} {v : V} (ab : Abs C.X.K H M) (dn : Den C.X.K H M d v) (e : items M d = some xs) :
    ∃ a vs κ, v = .ref a ∧ DenL C.X.K H M xs vs ∧ SqV C.X.K κ H a vs ∧ ∀ H' M', Keep H M H' M' → Abs C.X.K H' M' → okOf d xs M' → ∃ ws, SqV C.X.K κ H' a ws ∧ DenL C.X.K H' M' xs ws := by
  obtain ⟨a, vs, rfl, l, h⟩ := seq_of ab dn e
  rcases h with ⟨_, sq, st⟩ | ⟨_, sq, st⟩
  · exact ⟨a, vs, true, rfl, l, sq, fun H' M' k _ _ => ⟨vs, (st H' M' k).1, (st H' M' k).2⟩⟩
  · exact ⟨a, vs, false, rfl, l, sq, st⟩
theorem di_zip2 {t : DA} (hg : Gl C.X "zip") (hm : C.X.mg "zip" = none) (ha : DPA C [a, b] t) (hs : starEach [a, b] C.X.env = (false, eval a C.X.env) :: starEach [b] C.X.env := by rfl) (hpl : (backTo pos (starEach [b] C.X.env)).any (·.1) = false := by rfl) :
    DPI C (.Tuple elts kk tpos) (.Call (.Name "zip" p) [a, b] [] pos) (iZip2 t) :=
  dpi_run' (monoI_zip2 ha.mono) (pi_zipK hg hm ha.pa hs hpl) fun pins s σ H τ M Q I er sr q => ⟨τ, M, er, sr, ha.mono _ _ _ _ _ _ (fun ds M' z vs H' g l => by
    revert z
    split
    · rename_i x y
      intro z
      obtain ⟨xs, ex, z⟩ := ok1_ex z
      obtain ⟨ys, ey, z⟩ := ok1_ex z
      obtain ⟨v, w, rfl, dn, dn2⟩ := l.two
      have sr' := sr.go g
      obtain ⟨a1, vs, κ1, rfl, l1, h1, st1⟩ := seq_k sr'.abs dn ex
      obtain ⟨a2, ws, κ2, rfl, l2, h2, st2⟩ := seq_k sr'.abs dn2 ey
      have hl1 := l1.length
      refine ⟨a1, a2, vs, ws, κ1, κ2, rfl, h1, h2, _, _, M', g, fun s2 I2 => ?_, z⟩
      obtain ⟨_, _, _, hz, _⟩ := inv_k I2 h1
      refine ⟨by rw [pairs_length]; omega, fun i H1 M1 d g1 ok hd => ?_, fun i H1 M1 g1 ok hi => ?_⟩
      · obtain ⟨dx, dy, hx, hy, rfl⟩ := pairs_get hd
        obtain ⟨us, q1, e1⟩ := st1 H1 M1 g1.keep g1.abs ok.1
        obtain ⟨us', q2, e2⟩ := st2 H1 M1 g1.keep g1.abs ok.2
        obtain ⟨x1, hx1, dx1⟩ := e1.get hx
        obtain ⟨y1, hy1, dy1⟩ := e2.get hy
        refine ⟨⟨_, _, x1, y1, q1, q2, hx1, hy1⟩, fun v H2 yl => ?_⟩
        obtain ⟨T, x2, y2, rfl, hT, rfl, f1, f2⟩ := yl
        have := f1 _ q1; rw [hx1] at this; cases this
        have := f2 _ q2; rw [hy1] at this; cases this
        exact new_tup (sr'.go g1) hT (.cons dx1 (.cons dy1 .nil))
      · obtain ⟨us, q1, e1⟩ := st1 H1 M1 g1.keep g1.abs ok.1
        obtain ⟨us', q2, e2⟩ := st2 H1 M1 g1.keep g1.abs ok.2
        have h1 := e1.length
        have h2 := e2.length
        exact ⟨_, _, q1, q2, by rw [pairs_length] at hi; omega⟩
    · exact fun z => z.elim) (fun _ _ _ z => z) q⟩
end
end DL

/-! What code computes, as functions over slots; lists that are changed are told by value (each has one name). -/
namespace DL
open PySem PySem.Spec PyProof.Rows L2
/-- a slot: nothing known; a value; an object of its own; an object that stands still for a while -/
inductive SV where
  | no | va (d : D) | ow (t : Option Nat) (o : OD) | vw (o : OD)
abbrev Fs := List SV
inductive R (α : Type) where
  | ok (a : α) (S : Fs) | ex (c : Str) (fs : DFs) (S : Fs) | un
def R.bind {α β : Type} (r : R α) (k : α → Fs → R β) : R β := match r with
  | .ok a S => k a S
  | .ex c fs S => .ex c fs S
  | .un => .un
def R.of {α : Type} (o : Option α) (S : Fs) : R α := match o with
  | some a => .ok a S
  | none => .un
def getS : Fs → Nat → SV
  | [], _ => .no
  | x :: _, 0 => x
  | _ :: r, i + 1 => getS r i
def setS : Fs → Nat → SV → Fs
  | [], _, _ => []
  | _ :: r, 0, x => x :: r
  | y :: r, i + 1, x => y :: setS r i x
def wipeS (S : Fs) : List Nat → Fs
  | [] => S
  | v :: vs => setS (wipeS S vs) v .no
theorem setS_len : ∀ (S : Fs) (i : Nat) (x : SV), (setS S i x).length = S.length
  | [], _, _ => rfl
  | _ :: _, 0, _ => rfl
  | _ :: r, i + 1, x => by simp only [setS, List.length_cons, setS_len r i x]
theorem setV_len (τ : Sd) (i : Nat) (x : Option D) : (setV τ i x).length = τ.length := by rw [setV_set]; simp
theorem getS_out : ∀ (S : Fs) (i : Nat), S.length ≤ i → getS S i = .no
  | [], _, _ => rfl
  | _ :: _, 0, h => by simp at h
  | _ :: r, i + 1, h => getS_out r i (by simpa using h)
theorem getV_out : ∀ (S : Sd) (i : Nat), S.length ≤ i → getV S i = none
  | [], _, _ => rfl
  | _ :: _, 0, h => by simp at h
  | _ :: r, i + 1, h => getV_out r i (by simpa using h)
theorem getS_same : ∀ (S : Fs) (i : Nat) (x : SV), i < S.length → getS (setS S i x) i = x
  | [], _, _, h => by simp at h
  | _ :: _, 0, _, _ => rfl
  | _ :: r, i + 1, x, h => getS_same r i x (by simpa using h)
theorem getS_ne : ∀ (S : Fs) (i j : Nat) (x : SV), i ≠ j → getS (setS S i x) j = getS S j
  | [], _, _, _, _ => rfl
  | _ :: _, 0, 0, _, h => absurd rfl h
  | _ :: _, 0, j + 1, _, _ => rfl
  | _ :: r, i + 1, 0, x, h => rfl
  | _ :: r, i + 1, j + 1, x, h => getS_ne r i j x (fun z => h (by rw [z]))
theorem getV_same : ∀ (S : Sd) (i : Nat) (x : Option D), i < S.length → getV (setV S i x) i = x
  | [], _, _, h => by simp at h
  | _ :: _, 0, _, _ => rfl
  | _ :: r, i + 1, x, h => getV_same r i x (by simpa using h)
theorem getV_ne : ∀ (S : Sd) (i j : Nat) (x : Option D), i ≠ j → getV (setV S i x) j = getV S j
  | [], _, _, _, _ => rfl
  | _ :: _, 0, 0, _, h => absurd rfl h
  | _ :: _, 0, j + 1, _, _ => rfl
  | _ :: r, i + 1, 0, x, h => rfl
  | _ :: r, i + 1, j + 1, x, h => getV_ne r i j x (fun z => h (by rw [z]))
theorem getS_set (S : Fs) (i j : Nat) (x : SV) : getS (setS S i x) j = if i = j then (if i < S.length then x else .no) else getS S j := by
  split
  · rename_i h; subst h
    split
    · rename_i h; exact getS_same S i x h
    · rename_i h; exact getS_out _ _ (by rw [setS_len]; omega)
  · rename_i h; exact getS_ne S i j x h
theorem getV_setV (S : Sd) (i j : Nat) (x : Option D) : getV (setV S i x) j = if i = j then (if i < S.length then x else none) else getV S j := by
  split
  · rename_i h; subst h
    split
    · rename_i h; exact getV_same S i x h
    · rename_i h; exact getV_out _ _ (by rw [setV_len]; omega)
  · rename_i h; exact getV_ne S i j x h
def SV.isR : SV → Bool
  | .ow _ _ => true
  | .vw _ => true
  | _ => false
structure Rel (ad : Nat → Addr) (M0 : Mp) (S : Fs) (τ : Sd) (M : Mp) : Prop where
  len : τ.length = S.length
  va : ∀ i d, getS S i = .va d → getV τ i = some d
  ow : ∀ i t o, getS S i = .ow t o → ∃ a, getV τ i = some (.ref a) ∧ M a = some o ∧ M0 a = none ∧ (∀ k, t = some k → a = ad k) ∧ o ≠ .priv
  vw : ∀ i o, getS S i = .vw o → ∃ a, getV τ i = some (.ref a) ∧ M0 a = some o ∧ o ≠ .priv
  inj : ∀ i j a, (getS S i).isR = true → (getS S j).isR = true → getV τ i = some (.ref a) → getV τ j = some (.ref a) → i = j
  sub : Sub M0 M
section
variable {ad : Nat → Addr} {M0 M M' : Mp} {S : Fs} {τ : Sd}
theorem getS_lt {i : Nat} (h : getS S i ≠ .no) : i < S.length := by
  rcases Nat.lt_or_ge i S.length with z | z
  · exact z
  · exact absurd (getS_out S i z) h
theorem Rel.mono (r : Rel ad M0 S τ M) (h : Sub M M') : Rel ad M0 S τ M' := ⟨r.len, r.va, fun i t o e => by
  obtain ⟨a, b, c, d⟩ := r.ow i t o e
  exact ⟨a, b, h _ _ c, d⟩, r.vw, r.inj, r.sub.trans h⟩
theorem Rel.set_va (r : Rel ad M0 S τ M) (i : Nat) (d : D) : Rel ad M0 (setS S i (.va d)) (setV τ i (some d)) M := by
  refine ⟨by rw [setS_len, setV_len, r.len], fun j e h => ?_, fun j t o h => ?_, fun j o h => ?_, fun j k a h1 h2 e1 e2 => ?_, r.sub⟩
  · rw [getS_set] at h; rw [getV_setV]
    split at h
    · subst i; rw [if_pos rfl]
      split at h
      · cases h; rw [if_pos (by rw [r.len]; assumption)]
      · cases h
    · rename_i hn; rw [if_neg hn]; exact r.va j e h
  · rw [getS_set] at h; rw [getV_setV]
    split at h
    · split at h <;> cases h
    · rename_i hn; rw [if_neg hn]; exact r.ow j t o h
  · rw [getS_set] at h; rw [getV_setV]
    split at h
    · split at h <;> cases h
    · rename_i hn; rw [if_neg hn]; exact r.vw j o h
  · rw [getS_set] at h1 h2; rw [getV_setV] at e1 e2
    split at h1
    · split at h1 <;> cases h1
    · split at h2
      · split at h2 <;> cases h2
      · rename_i n1 n2; rw [if_neg n1] at e1; rw [if_neg n2] at e2; exact r.inj j k a h1 h2 e1 e2
theorem Rel.set_no (r : Rel ad M0 S τ M) (i : Nat) (x : Option D) : Rel ad M0 (setS S i .no) (setV τ i x) M := by
  refine ⟨by rw [setS_len, setV_len, r.len], fun j e h => ?_, fun j t o h => ?_, fun j o h => ?_, fun j k a h1 h2 e1 e2 => ?_, r.sub⟩
  · rw [getS_set] at h; rw [getV_setV]
    split at h
    · split at h <;> cases h
    · rename_i hn; rw [if_neg hn]; exact r.va j e h
  · rw [getS_set] at h; rw [getV_setV]
    split at h
    · split at h <;> cases h
    · rename_i hn; rw [if_neg hn]; exact r.ow j t o h
  · rw [getS_set] at h; rw [getV_setV]
    split at h
    · split at h <;> cases h
    · rename_i hn; rw [if_neg hn]; exact r.vw j o h
  · rw [getS_set] at h1 h2; rw [getV_setV] at e1 e2
    split at h1
    · split at h1 <;> cases h1
    · split at h2
      · split at h2 <;> cases h2
      · rename_i n1 n2; rw [if_neg n1] at e1; rw [if_neg n2] at e2; exact r.inj j k a h1 h2 e1 e2
theorem Rel.wipe (r : Rel ad M0 S τ M) : ∀ vs : List Nat, Rel ad M0 (wipeS S vs) (wipeD τ vs) M
  | [] => r
  | v :: vs => (Rel.wipe r vs).set_no v none
/-- a reference slot's address is told by M -/
theorem Rel.there (r : Rel ad M0 S τ M) {j : Nat} {a : Addr} (h : (getS S j).isR = true) (e : getV τ j = some (.ref a)) : ∃ o, M a = some o := by
  cases q : getS S j with
  | no => rw [q] at h; cases h
  | va d => rw [q] at h; cases h
  | ow t o =>
    obtain ⟨b, e1, e2, _⟩ := r.ow j t o q
    rw [e] at e1; cases e1
    exact ⟨o, e2⟩
  | vw o =>
    obtain ⟨b, e1, e2, _⟩ := r.vw j o q
    rw [e] at e1; cases e1
    exact ⟨o, r.sub _ _ e2⟩
theorem Rel.set_ow (r : Rel ad M0 S τ M) (i : Nat) {p : Addr} (hp : M p = none) (o : OD) (np : o ≠ .priv) : Rel ad M0 (setS S i (.ow none o)) (setV τ i (some (.ref p))) (put M p o) := by
  refine ⟨by rw [setS_len, setV_len, r.len], fun j e h => ?_, fun j t o' h => ?_, fun j o' h => ?_, fun j k a h1 h2 e1 e2 => ?_, r.sub.put (r.sub.free hp)⟩
  · rw [getS_set] at h; rw [getV_setV]
    split at h
    · split at h <;> cases h
    · rename_i hn; rw [if_neg hn]; exact r.va j e h
  · rw [getS_set] at h; rw [getV_setV]
    split at h
    · subst i; rw [if_pos rfl]
      split at h
      · cases h; rw [if_pos (by rw [r.len]; assumption)]
        exact ⟨p, rfl, put_same, r.sub.free hp, (fun k z => by cases z), np⟩
      · cases h
    · rename_i hn; rw [if_neg hn]
      obtain ⟨a, b, c, d⟩ := r.ow j t o' h
      exact ⟨a, b, by rw [put_ne (ne_fresh c hp)]; exact c, d⟩
  · rw [getS_set] at h; rw [getV_setV]
    split at h
    · split at h <;> cases h
    · rename_i hn; rw [if_neg hn]; exact r.vw j o' h
  · rw [getS_set] at h1 h2; rw [getV_setV] at e1 e2
    split at h1
    · subst i
      rw [if_pos rfl] at e1
      split at h1
      · split at h2
        · assumption
        · rename_i hlt n2
          rw [if_neg n2] at e2
          rw [if_pos (by rw [r.len]; exact hlt)] at e1
          cases e1
          obtain ⟨o, ho⟩ := r.there h2 e2
          rw [hp] at ho; cases ho
      · cases h1
    · rename_i n1
      rw [if_neg n1] at e1
      split at h2
      · subst i
        rw [if_pos rfl] at e2
        split at h2
        · rename_i hlt
          rw [if_pos (by rw [r.len]; exact hlt)] at e2
          cases e2
          obtain ⟨o, ho⟩ := r.there h1 e1
          rw [hp] at ho; cases ho
        · cases h2
      · rename_i n2
        rw [if_neg n2] at e2
        exact r.inj j k a h1 h2 e1 e2
theorem getS_set' {i : Nat} (lt : i < S.length) {j : Nat} {x : SV} : getS (setS S i x) j = if i = j then x else getS S j := by rw [getS_set, if_pos lt]
/-- an own object is changed -/
theorem Rel.upd (r : Rel ad M0 S τ M) {i : Nat} {t : Option Nat} {o : OD} {a : Addr} (h : getS S i = .ow t o) (e : getV τ i = some (.ref a)) (u : OD) (np : u ≠ .priv) : Rel ad M0 (setS S i (.ow t u)) τ (put M a u) := by
  obtain ⟨b, e1, hM, h0, ht⟩ := r.ow i t o h
  rw [e] at e1; cases e1
  have lt : i < S.length := getS_lt (by rw [h]; exact fun z => nomatch z)
  have isR : ∀ j, (getS (setS S i (.ow t u)) j).isR = (getS S j).isR := fun j => by
    rw [getS_set' lt]
    split
    · subst i; rw [h]; rfl
    · rfl
  refine ⟨by rw [setS_len, r.len], fun j e h' => ?_, fun j t' o' h' => ?_, fun j o' h' => ?_, fun j k b h1 h2 e1 e2 => ?_, fun b w hb => ?_⟩
  · rw [getS_set' lt] at h'
    split at h'
    · cases h'
    · exact r.va j e h'
  · rw [getS_set' lt] at h'
    split at h'
    · subst i
      cases h'
      exact ⟨a, e, put_same, h0, ht.1, np⟩
    · rename_i hn
      obtain ⟨b, e1, c, d⟩ := r.ow j t' o' h'
      have ne : b ≠ a := fun z => hn (by subst z; exact r.inj i j b (by rw [h]; rfl) (by rw [h']; rfl) e e1)
      exact ⟨b, e1, by rw [put_ne ne]; exact c, d⟩
  · rw [getS_set' lt] at h'
    split at h'
    · cases h'
    · exact r.vw j o' h'
  · rw [isR] at h1 h2; exact r.inj j k b h1 h2 e1 e2
  · rw [put_ne (fun z => by subst z; rw [h0] at hb; cases hb)]; exact r.sub b w hb
/-- an own list becomes a fixed one -/
theorem Rel.frz (r : Rel ad M0 S τ M) {i : Nat} {o : OD} {a : Addr} (h : getS S i = .ow none o) (e : getV τ i = some (.ref a)) (d : D) : Rel ad M0 (setS S i (.va d)) (setV τ i (some d)) (del M a) := by
  obtain ⟨b, e1, hM, h0, ht⟩ := r.ow i none o h
  rw [e] at e1; cases e1
  refine ⟨by rw [setS_len, setV_len, r.len], fun j e h' => ?_, fun j t' o' h' => ?_, fun j o' h' => ?_, fun j k b h1 h2 e1 e2 => ?_, fun b w hb => ?_⟩
  · rw [getS_set] at h'; rw [getV_setV]
    split at h'
    · subst i; rw [if_pos rfl]
      split at h'
      · cases h'; rw [if_pos (by rw [r.len]; assumption)]
      · cases h'
    · rename_i hn; rw [if_neg hn]; exact r.va j e h'
  · rw [getS_set] at h'; rw [getV_setV]
    split at h'
    · split at h' <;> cases h'
    · rename_i hn; rw [if_neg hn]
      obtain ⟨b, e1, c, d⟩ := r.ow j t' o' h'
      have ne : b ≠ a := fun z => hn (by subst z; exact r.inj i j b (by rw [h]; rfl) (by rw [h']; rfl) e e1)
      exact ⟨b, e1, by rw [del_ne ne]; exact c, d⟩
  · rw [getS_set] at h'; rw [getV_setV]
    split at h'
    · split at h' <;> cases h'
    · rename_i hn; rw [if_neg hn]; exact r.vw j o' h'
  · rw [getS_set] at h1 h2; rw [getV_setV] at e1 e2
    split at h1
    · split at h1 <;> cases h1
    · split at h2
      · split at h2 <;> cases h2
      · rename_i n1 n2; rw [if_neg n1] at e1; rw [if_neg n2] at e2; exact r.inj j k b h1 h2 e1 e2
  · rw [del_ne (fun z => by subst z; rw [h0] at hb; cases hb)]; exact r.sub b w hb
/-- an own object stands still for a while -/
theorem Rel.bor (r : Rel ad M0 S τ M) {i : Nat} {t : Option Nat} {o : OD} {a : Addr} (h : getS S i = .ow t o) (e : getV τ i = some (.ref a)) : Rel ad (put M0 a o) (setS S i (.vw o)) τ M := by
  obtain ⟨b, e1, hM, h0, ht⟩ := r.ow i t o h
  rw [e] at e1; cases e1
  have lt : i < S.length := getS_lt (by rw [h]; exact fun z => nomatch z)
  have isR : ∀ j, (getS (setS S i (.vw o)) j).isR = (getS S j).isR := fun j => by
    rw [getS_set' lt]
    split
    · subst i; rw [h]; rfl
    · rfl
  refine ⟨by rw [setS_len, r.len], fun j e h' => ?_, fun j t' o' h' => ?_, fun j o' h' => ?_, fun j k b h1 h2 e1 e2 => ?_, fun b w hb => ?_⟩
  · rw [getS_set' lt] at h'
    split at h'
    · cases h'
    · exact r.va j e h'
  · rw [getS_set' lt] at h'
    split at h'
    · cases h'
    · rename_i hn
      obtain ⟨b, e1, c, d, f⟩ := r.ow j t' o' h'
      have ne : b ≠ a := fun z => hn (by subst z; exact r.inj i j b (by rw [h]; rfl) (by rw [h']; rfl) e e1)
      exact ⟨b, e1, c, by rw [put_ne ne]; exact d, f⟩
  · rw [getS_set' lt] at h'
    split at h'
    · subst i
      cases h'
      exact ⟨a, e, put_same, ht.2⟩
    · obtain ⟨b, e1, c, np⟩ := r.vw j o' h'
      refine ⟨b, e1, ?_, np⟩
      rw [put_ne (fun z => by subst z; rw [h0] at c; cases c)]; exact c
  · rw [isR] at h1 h2; exact r.inj j k b h1 h2 e1 e2
  · by_cases hz : b = a
    · subst hz; rw [put_same] at hb; cases hb; exact hM
    · rw [put_ne hz] at hb; exact r.sub b w hb
/-- .. and is own again -/
theorem Rel.give {i : Nat} {t : Option Nat} {o : OD} {a : Addr} (r : Rel ad (put M0 a o) S τ M) (h0 : M0 a = none) (e : getV τ i = some (.ref a)) (ht : ∀ k, t = some k → a = ad k) (np : o ≠ .priv) (hR : (getS S i).isR = true) : Rel ad M0 (setS S i (.ow t o)) τ M := by
  have lt : i < S.length := getS_lt (fun z => by rw [z] at hR; cases hR)
  have isR : ∀ j, (getS (setS S i (.ow t o)) j).isR = (getS S j).isR := fun j => by
    rw [getS_set' lt]
    split
    · subst i; exact hR.symm
    · rfl
  refine ⟨by rw [setS_len, r.len], fun j e h' => ?_, fun j t' o' h' => ?_, fun j o' h' => ?_, fun j k b h1 h2 e1 e2 => ?_, fun b w hb => ?_⟩
  · rw [getS_set' lt] at h'
    split at h'
    · cases h'
    · exact r.va j e h'
  · rw [getS_set' lt] at h'
    split at h'
    · subst i
      cases h'
      exact ⟨a, e, r.sub _ _ put_same, h0, ht, np⟩
    · obtain ⟨b, e1, c, d, f⟩ := r.ow j t' o' h'
      have ne : b ≠ a := fun z => by subst z; rw [put_same] at d; cases d
      exact ⟨b, e1, c, by rw [put_ne ne] at d; exact d, f⟩
  · rw [getS_set' lt] at h'
    split at h'
    · cases h'
    · rename_i hn
      obtain ⟨b, e1, c, np'⟩ := r.vw j o' h'
      have ne : b ≠ a := fun z => hn (by subst z; exact r.inj i j b hR (by rw [h']; rfl) e e1)
      exact ⟨b, e1, by rw [put_ne ne] at c; exact c, np'⟩
  · rw [isR] at h1 h2; exact r.inj j k b h1 h2 e1 e2
  · exact r.sub b w (by rw [put_ne (fun z => by subst z; rw [h0] at hb; cases hb)]; exact hb)
end
/-! ### what is to be shown behind -/
def post {α : Type} (K : PySem.W.Frag) (ad : Nat → Addr) (M0 : Mp) (τ : Sd) (r : R α) (Q : α → Mp → Prop) (E : DX) : Prop := match r with
  | .ok a S => ∀ M, Rel ad M0 S τ M → Q a M
  | .ex c fs S => ∀ M, Rel ad M0 S τ M → E (cl K c) fs M
  | .un => False
theorem post.bind {α β : Type} {K : PySem.W.Frag} {ad : Nat → Addr} {M0 : Mp} {τ : Sd} {r : R α} {k : α → Fs → R β} {Q : β → Mp → Prop} {Q' : α → Mp → Prop} {E : DX} (q : post K ad M0 τ (r.bind k) Q E)
    (h : ∀ a S1 M1, Rel ad M0 S1 τ M1 → post K ad M0 τ (k a S1) Q E → Q' a M1) : post K ad M0 τ r Q' E := by
  cases r with
  | ok a S => exact fun M r => h a S M r q
  | ex c fs S => exact q
  | un => exact q
theorem post.of {α : Type} {K : PySem.W.Frag} {ad : Nat → Addr} {M0 : Mp} {τ : Sd} {o : Option α} {S : Fs} {Q : α → Mp → Prop} {E : DX} (q : post K ad M0 τ (R.of o S) Q E) : ∃ a, o = some a ∧ ∀ M, Rel ad M0 S τ M → Q a M := by
  cases o with
  | none => exact q.elim
  | some a => exact ⟨a, rfl, q⟩
abbrev DY (α : Type) := Sd → Mp → (α → Mp → Prop) → DX → Prop
def Sim {α : Type} (K : PySem.W.Frag) (t : DY α) (f : Fs → R α) : Prop := ∀ (ad : Nat → Addr) (M0 : Mp) (S : Fs) (τ : Sd) (M : Mp) (Q : α → Mp → Prop) (E : DX), Rel ad M0 S τ M → post K ad M0 τ (f S) Q E → t τ M Q E
/-- a value, or what a slot holds -/
inductive VD where
  | so (d : D) | sl (i : Nat)
def Mn : Mp := fun _ => none
def look (S : Fs) : VD → Option D
  | .so d => some d
  | .sl i => match getS S i with
    | .va d => some d
    | .ow _ (.lst xs) => some (.lst xs)
    | .vw (.lst xs) => some (.lst xs)
    | _ => none
def looks (S : Fs) : List VD → Option (List D)
  | [] => some []
  | v :: r => (look S v).bind fun d => (looks S r).bind fun ds => some (d :: ds)
def VwV (τ : Sd) : VD → D → Prop
  | .so d, e => e = d
  | .sl i, e => getV τ i = some e
def VwVs (τ : Sd) : List VD → List D → Prop
  | [], es => es = []
  | v :: r, es => ∃ e q, es = e :: q ∧ VwV τ v e ∧ VwVs τ r q
/-- d0 told as d -/
def Vw (M : Mp) (d0 d : D) : Prop := d0 = d ∨ ∃ a xs, d0 = .ref a ∧ M a = some (.lst xs) ∧ d = .lst xs
def Vws (M : Mp) : List D → List D → Prop
  | [], ds => ds = []
  | e :: r, ds => ∃ d q, ds = d :: q ∧ Vw M e d ∧ Vws M r q
def SimV (K : PySem.W.Frag) (t : DE) (f : Fs → R VD) : Prop := ∀ (ad : Nat → Addr) (M0 : Mp) (S : Fs) (τ : Sd) (M : Mp) (Q : DK) (E : DX), Rel ad M0 S τ M → post K ad M0 τ (f S) (fun v M1 => ∀ d, VwV τ v d → Q d M1) E → t τ M Q E
def SimVs (K : PySem.W.Frag) (t : DA) (f : Fs → R (List VD)) : Prop := ∀ (ad : Nat → Addr) (M0 : Mp) (S : Fs) (τ : Sd) (M : Mp) (Q : List D → Mp → Prop) (E : DX), Rel ad M0 S τ M → post K ad M0 τ (f S) (fun v M1 => ∀ d, VwVs τ v d → Q d M1) E → t τ M Q E
theorem Rel.look {ad : Nat → Addr} {M0 M : Mp} {S : Fs} {τ : Sd} (r : Rel ad M0 S τ M) {v : VD} {d e : D} (h : VwV τ v e) (l : DL.look S v = some d) : Vw M e d := by
  cases v with
  | so x => cases l; exact .inl h
  | sl i =>
    dsimp only [VwV] at h
    have l' : (match getS S i with
      | .va d => some d
      | .ow _ (.lst xs) => some (.lst xs)
      | .vw (.lst xs) => some (.lst xs)
      | _ => none) = some d := l
    split at l' <;> try cases l'
    · rename_i q; rw [r.va i _ q] at h; cases h; exact .inl rfl
    · rename_i q
      obtain ⟨a, e1, e2, _⟩ := r.ow i _ _ q
      rw [h] at e1; cases e1
      exact .inr ⟨a, _, rfl, e2, rfl⟩
    · rename_i q
      obtain ⟨a, e1, e2, _⟩ := r.vw i _ q
      rw [h] at e1; cases e1
      exact .inr ⟨a, _, rfl, r.sub _ _ e2, rfl⟩
theorem Rel.looks {ad : Nat → Addr} {M0 M : Mp} {S : Fs} {τ : Sd} (r : Rel ad M0 S τ M) : ∀ {vs : List VD} {ds es : List D}, VwVs τ vs es → DL.looks S vs = some ds → Vws M es ds
  | [], ds, es, h, l => by cases l; subst h; rfl
  | v :: vs, ds, es, ⟨e, q, e1, h1, h2⟩, l => by
    subst e1
    unfold DL.looks at l
    cases l1 : DL.look S v with
    | none => rw [l1] at l; cases l
    | some d =>
      rw [l1, Option.bind_some] at l
      cases l2 : DL.looks S vs with
      | none => rw [l2] at l; cases l
      | some ds' =>
        rw [l2, Option.bind_some] at l
        cases l
        exact ⟨d, ds', rfl, r.look h1 l1, r.looks h2 l2⟩
/-! ### operations do not mind -/
def OpV (f : O2) : Prop := ∀ (M : Mp) (x x' y y' z : D), Vw M x x' → Vw M y y' → f x' y' Mn = some z → f x y M = some z
def OlV (g : OL) : Prop := ∀ (M : Mp) (ds ds' : List D) (z : D), Vws M ds ds' → g ds' Mn = some z → g ds M = some z
def isRef : D → Bool
  | .ref _ => true
  | _ => false
theorem vw_eq {M : Mp} {x d : D} (h : Vw M x d) (n : ∀ xs, d ≠ .lst xs) : x = d := by
  rcases h with h | ⟨_, xs, _, _, h⟩
  · exact h
  · exact absurd h (n xs)
theorem deref_vw {M : Mp} {x x' : D} (h : Vw M x x') (n : isRef x' = false) : deref M x = deref Mn x' := by
  rcases h with rfl | ⟨a, xs, rfl, hM, rfl⟩
  · cases x <;> first | rfl | cases n
  · simp only [deref, hM]
theorem derefN {x : D} : deref Mn x = x := by cases x <;> rfl
theorem items_vw {M : Mp} {x x' : D} {xs : List D} (h : Vw M x x') (e : items Mn x' = some xs) : items M x = some xs := by
  rcases h with rfl | ⟨a, ys, rfl, hM, rfl⟩
  · cases x <;> first | exact e | exact nomatch e
  · simp only [items] at e ⊢; rw [hM]; exact e
theorem itemsL_vw {M : Mp} {x x' : D} {xs : List D} (h : Vw M x x') (e : itemsL Mn x' = some xs) : itemsL M x = some xs := by
  rcases h with rfl | ⟨a, ys, rfl, hM, rfl⟩
  · cases x <;> first | exact e | exact nomatch e
  · simp only [itemsL, items] at e ⊢; rw [hM]; exact e
theorem shp_ref {n : Nat} {x : D} (h : shp n x = true) : isRef x = false := by
  cases x <;> first | rfl | (cases n <;> simp [shp] at h)
theorem opv_I {p : Int → Int → Bool} {g : Int → Int → D} : OpV (fI p g) := fun M x x' y y' z hx hy e => by
  unfold fI at e
  split at e <;> try cases e
  rcases hx with rfl | ⟨_, _, _, _, h⟩
  · rcases hy with rfl | ⟨_, _, _, _, h⟩
    · exact e
    · cases h
  · cases h
theorem opv_sub : OpV fSub := opv_I
theorem opv_div : OpV fDiv := opv_I
theorem opv_mod : OpV fMod := opv_I
theorem opv_pow : OpV fPow := opv_I
theorem opv_eq : OpV fEq := fun M x x' y y' z hx hy e => by
  unfold fEq at e
  split at e
  · rcases hx with rfl | ⟨_, _, _, _, h⟩
    · rcases hy with rfl | ⟨_, _, _, _, h⟩
      · exact e
      · cases h
    · cases h
  · rename_i hn
    split at e <;> cases e
    rename_i h
    rw [derefN, derefN] at h
    have r1 := shp_ref h.1
    have r2 := shp_ref h.2
    have d1 := deref_vw hx r1
    have d2 := deref_vw hy r2
    unfold fEq
    split
    · rename_i a b
      rcases hx with rfl | ⟨_, _, h, _⟩ <;> try cases h
      rcases hy with rfl | ⟨_, _, h, _⟩ <;> try cases h
      exact (hn a b rfl rfl).elim
    · rw [d1, d2, derefN, derefN, if_pos h]
theorem opv_ne : OpV fNe := fun M x x' y y' z hx hy e => by
  unfold fNe at e
  split at e
  · rcases hx with rfl | ⟨_, _, _, _, h⟩
    · rcases hy with rfl | ⟨_, _, _, _, h⟩
      · exact e
      · cases h
    · cases h
  · rename_i hn
    split at e <;> cases e
    rename_i h
    rw [derefN, derefN] at h
    have r1 := shp_ref h.1
    have r2 := shp_ref h.2
    have d1 := deref_vw hx r1
    have d2 := deref_vw hy r2
    unfold fNe
    split
    · rename_i a b
      rcases hx with rfl | ⟨_, _, h, _⟩ <;> try cases h
      rcases hy with rfl | ⟨_, _, h, _⟩ <;> try cases h
      exact (hn a b rfl rfl).elim
    · rw [d1, d2, derefN, derefN, if_pos h]
theorem opv_in : OpV fIn := fun M x x' y y' z hx hy e => by
  unfold fIn at e
  split at e
  · cases e
  · rename_i hn
    cases q : items Mn y' with
    | none => rw [q] at e; cases e
    | some ys =>
      rw [q, Option.bind_some] at e
      split at e <;> cases e
      rename_i h
      rw [derefN] at h
      have d1 := deref_vw hx (shp_ref h.1)
      have i2 := items_vw hy q
      unfold fIn
      split
      · rcases hy with rfl | ⟨_, _, h, _⟩
        · cases q
        · cases h
      · rw [i2, Option.bind_some, d1, derefN, if_pos h]
theorem opv_notIn : OpV fNotIn := fun M x x' y y' z hx hy e => by
  unfold fNotIn at e
  split at e
  · cases e
  · rename_i hn
    cases q : items Mn y' with
    | none => rw [q] at e; cases e
    | some ys =>
      rw [q, Option.bind_some] at e
      split at e <;> cases e
      rename_i h
      rw [derefN] at h
      have d1 := deref_vw hx (shp_ref h.1)
      have i2 := items_vw hy q
      unfold fNotIn
      split
      · rcases hy with rfl | ⟨_, _, h, _⟩
        · cases q
        · cases h
      · rw [i2, Option.bind_some, d1, derefN, if_pos h]
theorem opv_add : OpV fAdd := fun M x x' y y' z hx hy e => by
  have lists : ∀ xs ys, deref Mn x' = .lst xs → deref Mn y' = .lst ys → deref M x = .lst xs ∧ deref M y = .lst ys := fun xs ys h1 h2 => by
    rw [derefN] at h1 h2
    subst h1; subst h2
    rw [deref_vw hx rfl, deref_vw hy rfl]
    exact ⟨rfl, rfl⟩
  rcases hx with rfl | ⟨a, xs, rfl, hM, rfl⟩
  · cases x
    case lst xs =>
      simp only [fAdd] at e ⊢
      split at e <;> try cases e
      rename_i u v h1 h2
      rw [(lists _ _ h1 h2).1, (lists _ _ h1 h2).2]
      exact e
    case int i =>
      simp only [fAdd] at e ⊢
      split at e <;> try cases e
      rcases hy with rfl | ⟨_, _, _, _, h⟩
      · rfl
      · cases h
    case str i =>
      simp only [fAdd] at e ⊢
      split at e <;> try cases e
      rcases hy with rfl | ⟨_, _, _, _, h⟩
      · exact e
      · cases h
    case tup i =>
      simp only [fAdd] at e ⊢
      split at e <;> try cases e
      rcases hy with rfl | ⟨_, _, _, _, h⟩
      · exact e
      · cases h
    all_goals
      simp only [fAdd] at e
      split at e <;> try cases e
      rename_i h1 _
      simp only [derefN] at h1
      cases h1
  · simp only [fAdd] at e ⊢
    split at e <;> try cases e
    rename_i u v h1 h2
    rw [(lists _ _ h1 h2).1, (lists _ _ h1 h2).2]
    exact e
theorem opv_mul : OpV fMul := fun M x x' y y' z hx hy e => by
  have hk : ∃ k, y' = .int k := by
    cases y' <;> first | exact ⟨_, rfl⟩ | (cases x' <;> simp [fMul] at e)
  obtain ⟨k, rfl⟩ := hk
  obtain rfl : y = .int k := vw_eq hy (fun _ z => nomatch z)
  rcases hx with rfl | ⟨a, xs, rfl, hM, rfl⟩
  · cases x <;> first | exact e | (simp only [fMul, derefN] at e; cases e)
  · simp only [fMul, derefN] at e
    simp only [fMul, deref, hM]
    exact e
theorem opv_ix : OpV fIx := fun M x x' y y' z hx hy e => by
  cases y' <;> try (simp [fIx] at e; done)
  rename_i k
  obtain rfl : y = .int k := vw_eq hy (fun _ z => nomatch z)
  rcases hx with rfl | ⟨a, xs, rfl, hM, rfl⟩
  · cases x <;> first | exact e | (simp [fIx, items, Mn] at e; done)
  · simp only [fIx, items] at e ⊢; rw [hM]; exact e
theorem opv_is : OpV fIs := fun M x x' y y' z hx hy e => by
  cases y' <;> try (simp [fIs] at e; done)
  · obtain rfl : y = .non := vw_eq hy (fun _ z => nomatch z)
    rcases hx with rfl | ⟨a, xs, rfl, hM, rfl⟩
    · exact e
    · exact e
  · rename_i k
    obtain rfl : y = .bl k := vw_eq hy (fun _ z => nomatch z)
    rcases hx with rfl | ⟨a, xs, rfl, hM, rfl⟩
    · exact e
    · cases e
theorem opv_isNot : OpV fIsNot := fun M x x' y y' z hx hy e => by
  cases y' <;> try (simp [fIsNot] at e; done)
  · obtain rfl : y = .non := vw_eq hy (fun _ z => nomatch z)
    rcases hx with rfl | ⟨a, xs, rfl, hM, rfl⟩
    · exact e
    · exact e
  · rename_i k
    obtain rfl : y = .bl k := vw_eq hy (fun _ z => nomatch z)
    rcases hx with rfl | ⟨a, xs, rfl, hM, rfl⟩
    · exact e
    · cases e
theorem opv_ord {g : PyData → PyData → Bool} {h : Int → Int → Bool} : OpV (fOrd g h) := fun M x x' y y' z hx hy e => by
  unfold fOrd at e
  split at e
  · rename_i i j
    rw [show x = .int i from vw_eq hx (fun _ z => nomatch z), show y = .int j from vw_eq hy (fun _ z => nomatch z)]
    exact e
  · rename_i hn
    split at e <;> cases e
    rename_i hB
    rw [derefN, derefN] at hB
    have hB' := hB
    unfold ordB at hB'
    simp only [Bool.and_eq_true] at hB'
    have d1 := deref_vw hx (shp_ref hB'.1.1.1)
    have d2 := deref_vw hy (shp_ref hB'.1.1.2)
    unfold fOrd
    split
    · rename_i a b
      rcases hx with rfl | ⟨_, _, h, _⟩ <;> try cases h
      rcases hy with rfl | ⟨_, _, h, _⟩ <;> try cases h
      exact (hn a b rfl rfl).elim
    · rw [d1, d2, derefN, derefN, if_pos hB]
theorem opv_ltD : OpV fLtD := opv_ord
theorem opv_leD : OpV fLeD := opv_ord
theorem opv_gtD : OpV fGtD := opv_ord
theorem opv_geD : OpV fGeD := opv_ord
/-! built-ins -/
theorem vws1 {M : Mp} {ds : List D} {d : D} (h : Vws M ds [d]) : ∃ e, ds = [e] ∧ Vw M e d := by
  cases ds with
  | nil => exact nomatch (show [d] = [] from h)
  | cons e r =>
    obtain ⟨d', q, e1, h1, h2⟩ := h
    cases e1
    cases r with
    | nil => exact ⟨e, rfl, h1⟩
    | cons => obtain ⟨_, _, z, _⟩ := h2; cases z
theorem vws2 {M : Mp} {ds : List D} {d d' : D} (h : Vws M ds [d, d']) : ∃ e e', ds = [e, e'] ∧ Vw M e d ∧ Vw M e' d' := by
  cases ds with
  | nil => exact nomatch (show [d, d'] = [] from h)
  | cons e r =>
    obtain ⟨d1, q, e1, h1, h2⟩ := h
    cases e1
    obtain ⟨e', rfl, h3⟩ := vws1 h2
    exact ⟨e, e', rfl, h1, h3⟩
theorem vw_int {M : Mp} {x : D} {i : Int} (h : Vw M x (.int i)) : x = .int i := vw_eq h (fun _ z => nomatch z)
theorem olv_one {g : OL} (h1 : ∀ (M : Mp) (x x' z : D), Vw M x x' → g [x'] Mn = some z → g [x] M = some z) (h2 : ∀ ds, (∀ d, ds ≠ [d]) → g ds Mn = none) : OlV g := fun M ds ds' z h e => by
  by_cases q : ∃ d, ds' = [d]
  · obtain ⟨d, rfl⟩ := q
    obtain ⟨x, rfl, hx⟩ := vws1 h
    exact h1 M x d z hx e
  · rw [h2 ds' fun d z => q ⟨d, z⟩] at e; cases e
theorem olv_len : OlV gLen := olv_one (fun M x x' z h e => by
  unfold gLen at e ⊢
  cases x'
  case str s =>
    obtain rfl : x = .str s := vw_eq h (fun _ z => nomatch z)
    exact e
  all_goals
    dsimp only at e
    rcases h with rfl | ⟨a, ys, rfl, hM, hh⟩
    · first | exact e | exact nomatch e
    · first | (cases hh; dsimp only; simp only [items, hM]; exact e) | exact nomatch hh) fun ds h => by
  unfold gLen
  split
  · exact absurd rfl (h _)
  · exact absurd rfl (h _)
  · rfl
theorem olv_L {α : Type} {g : OL} {c : List D → Option α} {r : α → Option D} (h1 : ∀ x M, g [x] M = (itemsL M x).bind fun xs => (c xs).bind r) (h2 : ∀ ds, (∀ d, ds ≠ [d]) → g ds Mn = none) : OlV g := olv_one (fun M x x' z h e => by
  rw [h1] at e ⊢
  cases q : itemsL Mn x' with
  | none => rw [q] at e; cases e
  | some xs => rw [q] at e; rw [itemsL_vw h q]; exact e) h2
theorem olv_all : OlV gAll := olv_L (fun _ _ => rfl) fun ds h => by
  match ds, h with
  | [], _ => rfl
  | [d], h => exact absurd rfl (h d)
  | _ :: _ :: _, _ => rfl
theorem olv_any : OlV gAny := olv_L (fun _ _ => rfl) fun ds h => by
  match ds, h with
  | [], _ => rfl
  | [d], h => exact absurd rfl (h d)
  | _ :: _ :: _, _ => rfl
theorem olv_sum : OlV gSum := olv_one (fun M x x' z h e => by
  have e : ((items Mn x').bind fun xs => (nums xs).bind fun bs => some (D.int bs.sum)) = some z := e
  show ((items M x).bind fun xs => (nums xs).bind fun bs => some (D.int bs.sum)) = some z
  cases q : items Mn x' with
  | none => rw [q] at e; cases e
  | some xs => rw [q] at e; rw [items_vw h q]; exact e) fun ds h => by
  match ds, h with
  | [], _ => rfl
  | [d], h => exact absurd rfl (h d)
  | _ :: _ :: _, _ => rfl
theorem olv_sorted : OlV gSorted := olv_L (c := some) (fun _ _ => rfl) fun ds h => by
  match ds, h with
  | [], _ => rfl
  | [d], h => exact absurd rfl (h d)
  | _ :: _ :: _, _ => rfl
theorem olv_max : OlV gMax := fun M ds ds' z h e => by
  match ds', h, e with
  | [], _, e => exact nomatch e
  | [d], h, e =>
    obtain ⟨x, rfl, hx⟩ := vws1 h
    have e : (itemsL Mn d).bind (fun xs => (nums xs).bind fun bs => if bs.isEmpty then none else some (.int (maxI bs))) = some z := e
    show (itemsL M x).bind (fun xs => (nums xs).bind fun bs => if bs.isEmpty then none else some (.int (maxI bs))) = some z
    cases q : itemsL Mn d with
    | none => rw [q] at e; cases e
    | some xs => rw [q] at e; rw [itemsL_vw hx q]; exact e
  | [d, d'], h, e =>
    obtain ⟨x, y, rfl, hx, hy⟩ := vws2 h
    cases d <;> try (simp [gMax] at e; done)
    cases d' <;> try (simp [gMax] at e; done)
    rw [vw_int hx, vw_int hy]
    exact e
  | _ :: _ :: _ :: _, _, e => simp [gMax] at e
theorem olv_min : OlV gMin := fun M ds ds' z h e => by
  match ds', h, e with
  | [], _, e => exact nomatch e
  | [d], h, e =>
    obtain ⟨x, rfl, hx⟩ := vws1 h
    have e : (itemsL Mn d).bind (fun xs => (nums xs).bind fun bs => if bs.isEmpty then none else some (.int (minI bs))) = some z := e
    show (itemsL M x).bind (fun xs => (nums xs).bind fun bs => if bs.isEmpty then none else some (.int (minI bs))) = some z
    cases q : itemsL Mn d with
    | none => rw [q] at e; cases e
    | some xs => rw [q] at e; rw [itemsL_vw hx q]; exact e
  | [d, d'], h, e =>
    obtain ⟨x, y, rfl, hx, hy⟩ := vws2 h
    cases d <;> try (simp [gMin] at e; done)
    cases d' <;> try (simp [gMin] at e; done)
    rw [vw_int hx, vw_int hy]
    exact e
  | _ :: _ :: _ :: _, _, e => simp [gMin] at e
theorem olv_abs : OlV gAbs := olv_one (fun M x x' z h e => by
  cases x' <;> try (simp [gAbs] at e; done)
  rw [vw_int h]; exact e) fun ds h => by
  unfold gAbs
  split
  · exact absurd rfl (h _)
  · rfl
theorem olv_int : OlV gInt := olv_one (fun M x x' z h e => by
  cases x' <;> try (simp [gInt] at e; done)
  · rename_i b
    rw [show x = .bl b from vw_eq h (fun _ z => nomatch z)]
    exact e
  · rw [vw_int h]; exact e) fun ds h => by
  unfold gInt
  split
  · exact absurd rfl (h _)
  · exact absurd rfl (h _)
  · rfl
theorem olv_tuple : OlV gTuple := olv_one (fun M x x' z h e => by
  have e : (items Mn x').map (fun xs => D.tup xs) = some z := e
  show (items M x).map (fun xs => D.tup xs) = some z
  cases q : items Mn x' with
  | none => rw [q] at e; cases e
  | some xs => rw [q] at e; rw [items_vw h q]; exact e) fun ds h => by
  match ds, h with
  | [], _ => rfl
  | [d], h => exact absurd rfl (h d)
  | _ :: _ :: _, _ => rfl
theorem olv_list : OlV gList := olv_one (fun M x x' z h e => by
  have e : (items Mn x').map (fun xs => D.lst xs) = some z := e
  show (items M x).map (fun xs => D.lst xs) = some z
  cases q : items Mn x' with
  | none => rw [q] at e; cases e
  | some xs => rw [q] at e; rw [items_vw h q]; exact e) fun ds h => by
  match ds, h with
  | [], _ => rfl
  | [d], h => exact absurd rfl (h d)
  | _ :: _ :: _, _ => rfl
theorem typeN_vw {M : Mp} {x x' : D} {t : String} (h : Vw M x x') (e : typeN Mn x' = some t) : typeN M x = some t := by
  rcases h with rfl | ⟨a, ys, rfl, hM, rfl⟩
  · cases x <;> first | exact e | exact nomatch e
  · simp only [typeN] at e ⊢; rw [hM]; exact e
theorem olv_isi : OlV gIsi := fun M ds ds' z h e => by
  unfold gIsi at e
  split at e <;> try cases e
  rename_i d n
  obtain ⟨x, y, rfl, hx, hy⟩ := vws2 h
  obtain rfl : y = .ty n := vw_eq hy (fun _ z => nomatch z)
  unfold gIsi
  dsimp only
  split at e <;> try cases e
  rename_i hc
  rw [if_pos hc]
  cases q : typeN Mn d with
  | none => rw [q] at e; cases e
  | some t => rw [q] at e; rw [typeN_vw hx q]; exact e
theorem olv_repr : OlV gRepr := olv_one (fun M x x' z h e => by
  have e : (match deref Mn x' with
    | .tup xs => if (shp 64 (.tup xs) && rprOk (pyT (.tup xs))) = true then some (D.str (pyT (.tup xs)).shown) else none
    | .lst xs => if (shp 64 (.lst xs) && rprOk (pyT (.lst xs))) = true then some (D.str (pyT (.lst xs)).shown) else none
    | .bl b => some (D.str (if b then "True" else "False"))
    | .non => some (D.str "None")
    | .int i => if decide (i.natAbs.log2 < 1920) = true then some (D.str (toString i : String)) else none
    | .str x => if decide ((reprText x).length ≤ sizeLine) = true then some (D.str (reprText x)) else none
    | _ => none) = some z := e
  have n : isRef x' = false := by
    cases x' <;> first | rfl | (simp only [derefN] at e; cases e)
  show (match deref M x with
    | .tup xs => if (shp 64 (.tup xs) && rprOk (pyT (.tup xs))) = true then some (D.str (pyT (.tup xs)).shown) else none
    | .lst xs => if (shp 64 (.lst xs) && rprOk (pyT (.lst xs))) = true then some (D.str (pyT (.lst xs)).shown) else none
    | .bl b => some (D.str (if b then "True" else "False"))
    | .non => some (D.str "None")
    | .int i => if decide (i.natAbs.log2 < 1920) = true then some (D.str (toString i : String)) else none
    | .str x => if decide ((reprText x).length ≤ sizeLine) = true then some (D.str (reprText x)) else none
    | _ => none) = some z
  rw [deref_vw h n]; exact e) fun ds h => by
  match ds, h with
  | [], _ => rfl
  | [d], h => exact absurd rfl (h d)
  | _ :: _ :: _, _ => rfl
end DL

/-! Expressions as functions over slots. -/
namespace DL
open PySem PySem.Spec PyProof.Rows L2
abbrev FE := Fs → R D
abbrev FV := Fs → R VD
abbrev FVs := Fs → R (List VD)
abbrev FAs := Fs → R (List D)
abbrev FT := Fs → R Bool
abbrev FI := Fs → R (List D)
def R.opt {α β : Type} (o : Option α) (k : α → R β) : R β := match o with
  | some a => k a
  | none => .un
def R.bnd {α β : Type} (r : R α) (k : α → Fs → R β) : R β := match r with
  | .ok a S => k a S
  | _ => .un
@[simp] theorem R.bind_ok {α β : Type} {a : α} {S : Fs} {k : α → Fs → R β} : (R.ok a S).bind k = k a S := of_eq_true (eq_self _)
@[simp] theorem R.bind_ex {α β : Type} {c : Str} {fs : DFs} {S : Fs} {k : α → Fs → R β} : (R.ex c fs S).bind k = R.ex c fs S := of_eq_true (eq_self _)
@[simp] theorem R.bind_un {α β : Type} {k : α → Fs → R β} : (R.un : R α).bind k = R.un := of_eq_true (eq_self _)
@[simp] theorem R.bnd_ok {α β : Type} {a : α} {S : Fs} {k : α → Fs → R β} : (R.ok a S).bnd k = k a S := of_eq_true (eq_self _)
@[simp] theorem R.opt_some {α β : Type} {a : α} {k : α → R β} : R.opt (some a) k = k a := of_eq_true (eq_self _)
@[simp] theorem R.opt_none {α β : Type} {k : α → R β} : R.opt none k = R.un := of_eq_true (eq_self _)
@[simp] theorem R.of_some {α : Type} {a : α} {S : Fs} : R.of (some a) S = R.ok a S := of_eq_true (eq_self _)
@[simp] theorem R.of_none {α : Type} {S : Fs} : R.of (none : Option α) S = R.un := of_eq_true (eq_self _)
section
variable {α β : Type} {K : PySem.W.Frag} {ad : Nat → Addr} {M0 M : Mp} {S : Fs} {τ : Sd}
theorem post.opt {o : Option α} {k : α → R β} {Q : β → Mp → Prop} {E : DX} (q : post K ad M0 τ (R.opt o k) Q E) : ∃ a, o = some a ∧ post K ad M0 τ (k a) Q E := by
  cases o with
  | none => exact q.elim
  | some a => exact ⟨a, rfl, q⟩
theorem post.bnd {r : R α} {k : α → Fs → R β} {Q : β → Mp → Prop} {Q' : α → Mp → Prop} {E E' : DX} (q : post K ad M0 τ (r.bnd k) Q E)
    (h : ∀ a S1 M1, Rel ad M0 S1 τ M1 → post K ad M0 τ (k a S1) Q E → Q' a M1) : post K ad M0 τ r Q' E' := by
  cases r with
  | ok a S => exact fun M r => h a S M r q
  | ex c fs S => exact q.elim
  | un => exact q
end
/-! ### the words -/
def fVar (i : Nat) : FE := fun S => match getS S i with
  | .va d => .ok d S
  | _ => .un
def fC (d : D) : FE := fun S => .ok d S
def fSl (i : Nat) : FV := fun S => match getS S i with
  | .no => .un
  | _ => .ok (.sl i) S
def fSo (f : FE) : FV := fun S => (f S).bind fun d S1 => .ok (.so d) S1
def vNil : FVs := fun S => .ok [] S
def vCons (f : FV) (g : FVs) : FVs := fun S => (f S).bind fun v S1 => (g S1).bind fun vs S2 => .ok (v :: vs) S2
def aNil : FAs := fun S => .ok [] S
def aCons (f : FE) (g : FAs) : FAs := fun S => (f S).bind fun v S1 => (g S1).bind fun vs S2 => .ok (v :: vs) S2
def fTup (f : FAs) : FE := fun S => (f S).bind fun ds S1 => if ds.length ≤ sizeLine then .ok (.tup ds) S1 else .un
def fLstO (f : FAs) : FI := fun S => (f S).bind fun ds S1 => if ds.length ≤ sizeLine then .ok ds S1 else .un
def fLst (f : FAs) : FE := fun S => (f S).bind fun ds S1 => if ds.length ≤ sizeLine then .ok (.lst ds) S1 else .un
def fOp (f : O2) (a b : FV) : FE := fun S => (a S).bind fun v S1 => (b S1).bind fun w S2 => R.opt (look S2 v) fun x => R.opt (look S2 w) fun y => R.of (f x y Mn) S2
def fFn (g : OL) (a : FVs) : FE := fun S => (a S).bind fun vs S1 => R.opt (looks S1 vs) fun ds => R.of (g ds Mn) S1
def fAnd (a b : FE) : FE := fun S => (a S).bind fun x S1 => R.opt (bool1 x) fun c => if c = true then b S1 else .ok (.bl false) S1
def fOr (a b : FE) : FE := fun S => (a S).bind fun x S1 => R.opt (bool1 x) fun c => if c = true then .ok (.bl true) S1 else b S1
def fNot (a : FE) : FE := fun S => (a S).bind fun x S1 => R.opt (bool1 x) fun c => .ok (.bl (!c)) S1
def negD : D → Option D
  | .int i => some (.int (-i))
  | _ => none
def fNeg (a : FE) : FE := fun S => (a S).bind fun x S1 => R.of (negD x) S1
def fIf (c : FT) (a b : FE) : FE := fun S => (c S).bind fun k S1 => if k = true then a S1 else b S1
def fChain (f g : O2) (a b c : FV) : FE := fun S => (a S).bind fun v S1 => (b S1).bind fun w S2 => R.opt (look S2 v) fun x => R.opt (look S2 w) fun y => R.opt (f x y Mn) fun z => R.opt (bool1 z) fun k =>
  if k = true then (c S2).bind fun u S3 => R.opt (look S3 w) fun y => R.opt (look S3 u) fun z => R.of (g y z Mn) S3 else .ok (.bl false) S2
def pNone : Fs → R (Option Int) := fun S => .ok none S
def intD : D → Option Int
  | .int i => some i
  | _ => none
def pSome (a : FE) : Fs → R (Option Int) := fun S => (a S).bind fun x S1 => R.opt (intD x) fun i => .ok (some i) S1
def fPart (a : FV) (lo hi : Fs → R (Option Int)) : FE := fun S => (a S).bind fun v S1 => (lo S1).bind fun l S2 => (hi S2).bind fun h S3 => R.opt (look S3 v) fun x => R.of (part Mn x l h) S3
/-! tests -/
def tT (a : FE) : FT := fun S => (a S).bind fun x S1 => R.of (bool1 x) S1
def tA (a b : FT) : FT := fun S => (a S).bind fun c S1 => if c = true then b S1 else .ok false S1
def tO (a b : FT) : FT := fun S => (a S).bind fun c S1 => if c = true then .ok true S1 else b S1
def tN (a : FT) : FT := fun S => (a S).bind fun c S1 => .ok (!c) S1
def tY : FT := fun S => .ok true S
/-! what is walked -/
def src (S : Fs) : VD → Option (List D)
  | .so d => items Mn d
  | .sl i => match getS S i with
    | .va d => items Mn d
    | .vw (.lst xs) => some xs
    | _ => none
def fSeq (a : FV) : FI := fun S => (a S).bind fun v S1 => R.of (src S1 v) S1
def fRange1 (a : FAs) : FI := fun S => (a S).bind fun ds S1 => match ds with
  | [.int j] => if -4000000000000000000 ≤ j ∧ j ≤ 16777216 then .ok (rangeD 0 j.toNat) S1 else .un
  | _ => .un
def fRange2 (a : FAs) : FI := fun S => (a S).bind fun ds S1 => match ds with
  | [.int i, .int j] => if -4000000000000000000 ≤ i ∧ i ≤ 4000000000000000000 ∧ -4000000000000000000 ≤ j ∧ j ≤ 4000000000000000000 ∧ j - i ≤ 16777216 then .ok (rangeD i (j - i).toNat) S1 else .un
  | _ => .un
def fZip (a : FVs) : FI := fun S => (a S).bind fun vs S1 => match vs with
  | [v, w] => R.opt (look S1 v) fun x => R.opt (look S1 w) fun y => if alikeSeq Mn x y = true then R.opt (src S1 v) fun xs => R.opt (src S1 w) fun ys => .ok (pairs xs ys) S1 else .un
  | _ => .un
/-! comprehensions -/
abbrev FG := D → Fs → R Unit
def fgVar (i : Nat) : FG := fun d S => .ok () (setS S i (.va d))
abbrev FGs := List D → Fs → R Unit
def fgNil : FGs := fun ds S => match ds with
  | [] => .ok () S
  | _ => .un
def fgCons (g : FG) (r : FGs) : FGs := fun ds S => match ds with
  | d :: ds => (g d S).bnd fun _ S1 => r ds S1
  | [] => .un
def fgTup (n : Nat) (g : FGs) : FG := fun d S => match d with
  | .tup ds => if ds.length = n then g ds S else .un
  | _ => .un
def compF (g : FG) (t : FT) (e : FE) (vs : List Nat) : List D → Fs → R (List D)
  | [], S => .ok [] S
  | d :: ds, S => (g d (wipeS S vs)).bnd fun _ S1 => (t S1).bnd fun b S2 => if b = true then (e S2).bnd fun y S3 => (compF g t e vs ds S3).bnd fun ys S4 => .ok (y :: ys) S4 else compF g t e vs ds S2
def backS (S0 S : Fs) : List Nat → Fs
  | [] => S
  | v :: vs => setS (backS S0 S vs) v (match getS S0 v with
    | .va d => .va d
    | _ => .no)
def fComp (it : FI) (g : FG) (t : FT) (e : FE) (vs : List Nat) : FI := fun S => (it S).bind fun ds S1 => (compF g t e vs ds S1).bnd fun ys S2 => .ok ys (backS S1 S2 vs)
def toL (f : FI) : FE := fun S => (f S).bind fun xs S1 => .ok (.lst xs) S1
/-- a list stands still for a while -/
def fBor {α : Type} (i : Nat) (f : Fs → R α) : Fs → R α := fun S => match getS S i with
  | .ow t (.lst xs) => (match f (setS S i (.vw (.lst xs))) with
    | .ok a S1 => if (getS S1 i).isR = true then .ok a (setS S1 i (.ow t (.lst xs))) else .un
    | _ => .un)
  | _ => f S
/-! ### they hold -/
section
variable {K : PySem.W.Frag} {ta tb tc te : DE} {fa fb fc fe : FE} {va vb vc : FV} {i : Nat} {t : DA} {f : FAs} {vs : FVs} {A B : DT} {FA FB : FT}
theorem sim_var : Sim K (dVar i) (fVar i) := fun ad M0 S τ M Q E r q => by
  unfold fVar at q
  split at q
  · rename_i d h
    exact ok1_of (r.va i d h) (q M r)
  · exact q.elim
theorem sim_c {d : D} : Sim K (dC d) (fC d) := fun ad M0 S τ M Q E r q => q M r
theorem simv_sl : SimV K (dVar i) (fSl i) := fun ad M0 S τ M Q E r q => by
  have get : getS S i ≠ .no → ∃ d, getV τ i = some d := fun h => by
    cases e : getS S i with
    | no => exact absurd e h
    | va d => exact ⟨d, r.va i d e⟩
    | ow t o => obtain ⟨a, b, _⟩ := r.ow i t o e; exact ⟨_, b⟩
    | vw o => obtain ⟨a, b, _⟩ := r.vw i o e; exact ⟨_, b⟩
  unfold fSl at q
  split at q
  · exact q.elim
  · rename_i h
    obtain ⟨d, e⟩ := get h
    exact ok1_of e (q M r d e)
theorem simv_so (h : Sim K ta fa) : SimV K ta (fSo fa) := fun ad M0 S τ M Q E r q => h ad M0 S τ M Q E r (q.bind fun d S1 M1 r1 q1 => q1 M1 r1 d rfl)
theorem simvs_nil : SimVs K dNil vNil := fun ad M0 S τ M Q E r q => q M r [] rfl
theorem simvs_cons (h : SimV K ta va) (h2 : SimVs K t vs) : SimVs K (dCons ta t) (vCons va vs) := fun ad M0 S τ M Q E r q =>
  h ad M0 S τ M _ E r (q.bind fun v S1 M1 r1 q1 d hd => h2 ad M0 S1 τ M1 _ E r1 (q1.bind fun ws S2 M2 r2 q2 ds hds => q2 M2 r2 (d :: ds) ⟨d, ds, rfl, hd, hds⟩))
theorem sima_nil : Sim K dNil aNil := fun ad M0 S τ M Q E r q => q M r
theorem sima_cons (h : Sim K ta fa) (h2 : Sim K t f) : Sim K (dCons ta t) (aCons fa f) := fun ad M0 S τ M Q E r q =>
  h ad M0 S τ M _ E r (q.bind fun v S1 M1 r1 q1 => h2 ad M0 S1 τ M1 _ E r1 (q1.bind fun ws S2 M2 r2 q2 => q2 M2 r2))
theorem post.ite {α : Type} {ad : Nat → Addr} {M0 : Mp} {τ : Sd} {p : Prop} [Decidable p] {r : R α} {Q : α → Mp → Prop} {E : DX} (q : post K ad M0 τ (if p then r else .un) Q E) : p ∧ post K ad M0 τ r Q E := by
  split at q
  · exact ⟨by assumption, q⟩
  · exact q.elim
theorem sim_tup (h : Sim K t f) : Sim K (dTup t) (fTup f) := fun ad M0 S τ M Q E r q =>
  h ad M0 S τ M _ E r (q.bind fun ds S1 M1 r1 q1 => ⟨q1.ite.1, q1.ite.2 M1 r1⟩)
theorem sim_lst (h : Sim K t f) : Sim K (dLst t) (fLst f) := fun ad M0 S τ M Q E r q =>
  h ad M0 S τ M _ E r (q.bind fun ds S1 M1 r1 q1 => ⟨q1.ite.1, q1.ite.2 M1 r1⟩)
theorem sim_op {o : O2} (ho : OpV o) (h : SimV K ta va) (h2 : SimV K tb vb) : Sim K (dOp o ta tb) (fOp o va vb) := fun ad M0 S τ M Q E r q =>
  h ad M0 S τ M _ E r (q.bind fun v S1 M1 r1 q1 d hd => h2 ad M0 S1 τ M1 _ E r1 (q1.bind fun w S2 M2 r2 q2 e he => by
    obtain ⟨x, ex, q2⟩ := q2.opt
    obtain ⟨y, ey, q2⟩ := q2.opt
    obtain ⟨z, ez, q2⟩ := q2.of
    exact ok1_of (ho M2 d x e y z (r2.look hd ex) (r2.look he ey) ez) (q2 M2 r2)))
theorem sim_fn {g : OL} (ho : OlV g) (h : SimVs K t vs) : Sim K (dFn g t) (fFn g vs) := fun ad M0 S τ M Q E r q =>
  h ad M0 S τ M _ E r (q.bind fun ws S1 M1 r1 q1 ds hd => by
    obtain ⟨x, ex, q2⟩ := q1.opt
    obtain ⟨z, ez, q2⟩ := q2.of
    exact ok1_of (ho M1 ds x z (r1.looks hd ex) ez) (q2 M1 r1))
theorem sim_and (h : Sim K ta fa) (h2 : Sim K tb fb) : Sim K (dAnd ta tb) (fAnd fa fb) := fun ad M0 S τ M Q E r q =>
  h ad M0 S τ M _ E r (q.bind fun v S1 M1 r1 q1 => by
    obtain ⟨c, ec, q2⟩ := q1.opt
    refine ok1_of ec ?_
    cases c with
    | true => exact h2 ad M0 S1 τ M1 Q E r1 q2
    | false => exact q2 M1 r1)
theorem sim_or (h : Sim K ta fa) (h2 : Sim K tb fb) : Sim K (dOr ta tb) (fOr fa fb) := fun ad M0 S τ M Q E r q =>
  h ad M0 S τ M _ E r (q.bind fun v S1 M1 r1 q1 => by
    obtain ⟨c, ec, q2⟩ := q1.opt
    refine ok1_of ec ?_
    cases c with
    | true => exact q2 M1 r1
    | false => exact h2 ad M0 S1 τ M1 Q E r1 q2)
theorem sim_not (h : Sim K ta fa) : Sim K (dNot ta) (fNot fa) := fun ad M0 S τ M Q E r q =>
  h ad M0 S τ M _ E r (q.bind fun v S1 M1 r1 q1 => by
    obtain ⟨c, ec, q2⟩ := q1.opt
    exact ok1_of ec (q2 M1 r1))
theorem sim_neg (h : Sim K ta fa) : Sim K (dNeg ta) (fNeg fa) := fun ad M0 S τ M Q E r q =>
  h ad M0 S τ M _ E r (q.bind fun v S1 M1 r1 q1 => by
    obtain ⟨c, ec, q2⟩ := q1.of
    cases v <;> simp only [negD, reduceCtorEq, Option.some.injEq] at ec
    subst ec
    exact q2 M1 r1)
theorem sim_if (hc : Sim K A FA) (h : Sim K ta fa) (h2 : Sim K tb fb) : Sim K (dIf A ta tb) (fIf FA fa fb) := fun ad M0 S τ M Q E r q =>
  hc ad M0 S τ M _ E r (q.bind fun c S1 M1 r1 q1 => by
    cases c with
    | true => exact h ad M0 S1 τ M1 Q E r1 q1
    | false => exact h2 ad M0 S1 τ M1 Q E r1 q1)
theorem sim_chain {o p : O2} (ho : OpV o) (hp : OpV p) (h : SimV K ta va) (h2 : SimV K tb vb) (h3 : SimV K tc vc) : Sim K (dChain o p ta tb tc) (fChain o p va vb vc) := fun ad M0 S τ M Q E r q =>
  h ad M0 S τ M _ E r (q.bind fun v S1 M1 r1 q1 d hd => h2 ad M0 S1 τ M1 _ E r1 (q1.bind fun w S2 M2 r2 q2 e he => by
    obtain ⟨x, ex, q2⟩ := q2.opt
    obtain ⟨y, ey, q2⟩ := q2.opt
    obtain ⟨z, ez, q2⟩ := q2.opt
    obtain ⟨c, ec, q2⟩ := q2.opt
    refine ok1_of (ho M2 d x e y z (r2.look hd ex) (r2.look he ey) ez) (ok1_of ec ?_)
    cases c with
    | false => exact q2 M2 r2
    | true => exact h3 ad M0 S2 τ M2 _ E r2 (q2.bind fun u S3 M3 r3 q3 f hf => by
        obtain ⟨y, ey, q3⟩ := q3.opt
        obtain ⟨u, eu, q3⟩ := q3.opt
        obtain ⟨z, ez, q3⟩ := q3.of
        exact ok1_of (hp M3 e y f u z (r3.look he ey) (r3.look hf eu) ez) (q3 M3 r3))))
theorem part_vw {M : Mp} {x x' z : D} {l h : Option Int} (w : Vw M x x') (e : part Mn x' l h = some z) : part M x l h = some z := by
  rcases w with rfl | ⟨a, xs, rfl, hM, rfl⟩
  · cases x <;> first | exact e | (simp [part, items, Mn] at e; done)
  · simp only [part, items] at e ⊢; rw [hM]; exact e
theorem sim_pnone : Sim K oNone pNone := fun ad M0 S τ M Q E r q => q M r
theorem sim_psome (h : Sim K ta fa) : Sim K (oSome ta) (pSome fa) := fun ad M0 S τ M Q E r q =>
  h ad M0 S τ M _ E r (q.bind fun d S1 M1 r1 q1 => by
    obtain ⟨i, ei, q1⟩ := q1.opt
    cases d <;> simp only [intD, reduceCtorEq, Option.some.injEq] at ei
    subst ei
    exact q1 M1 r1)
theorem sim_part {tl th : DO} {fl fh : Fs → R (Option Int)} (h : SimV K ta va) (hl : Sim K tl fl) (hh : Sim K th fh) : Sim K (dPart ta tl th) (fPart va fl fh) := fun ad M0 S τ M Q E r q =>
  h ad M0 S τ M _ E r (q.bind fun v S1 M1 r1 q1 d hd => hl ad M0 S1 τ M1 _ E r1 (q1.bind fun l S2 M2 r2 q2 => hh ad M0 S2 τ M2 _ E r2 (q2.bind fun u S3 M3 r3 q3 => by
    obtain ⟨x, ex, q3⟩ := q3.opt
    obtain ⟨z, ez, q3⟩ := q3.of
    exact ok1_of (part_vw (r3.look hd ex) ez) (q3 M3 r3))))
theorem simt_t (h : Sim K ta fa) : Sim K (tOf ta) (tT fa) := fun ad M0 S τ M Q E r q =>
  h ad M0 S τ M _ E r (q.bind fun d S1 M1 r1 q1 => by
    obtain ⟨b, eb, q1⟩ := q1.of
    exact ok1_of eb (q1 M1 r1))
theorem simt_a (h : Sim K A FA) (h2 : Sim K B FB) : Sim K (tAnd A B) (tA FA FB) := fun ad M0 S τ M Q E r q =>
  h ad M0 S τ M _ E r (q.bind fun c S1 M1 r1 q1 => by
    cases c with
    | true => exact h2 ad M0 S1 τ M1 Q E r1 q1
    | false => exact q1 M1 r1)
theorem simt_o (h : Sim K A FA) (h2 : Sim K B FB) : Sim K (tOr A B) (tO FA FB) := fun ad M0 S τ M Q E r q =>
  h ad M0 S τ M _ E r (q.bind fun c S1 M1 r1 q1 => by
    cases c with
    | true => exact q1 M1 r1
    | false => exact h2 ad M0 S1 τ M1 Q E r1 q1)
theorem simt_n (h : Sim K A FA) : Sim K (tNot A) (tN FA) := fun ad M0 S τ M Q E r q =>
  h ad M0 S τ M _ E r (q.bind fun c S1 M1 r1 q1 => q1 M1 r1)
theorem simt_y : Sim K tYesD tY := fun ad M0 S τ M Q E r q => q M r
/-! walked -/
def SimI (K : PySem.W.Frag) (t : DI) (f : FI) : Prop := ∀ (ad : Nat → Addr) (M0 : Mp) (S : Fs) (τ : Sd) (M : Mp) (Q : List D → (Mp → Prop) → Mp → Prop) (E : DX), Rel ad M0 S τ M → post K ad M0 τ (f S) (fun ds M1 => ∀ ok : Mp → Prop, (∀ N, Sub M0 N → ok N) → Q ds ok M1) E → t τ M Q E
theorem Rel.src {ad : Nat → Addr} {M0 M : Mp} {S : Fs} {τ : Sd} (r : Rel ad M0 S τ M) {v : VD} {e : D} {xs : List D} (h : VwV τ v e) (l : DL.src S v = some xs) : items M e = some xs ∧ ∀ N, Sub M0 N → okOf e xs N := by
  have va : ∀ d, items Mn d = some xs → items M d = some xs ∧ ∀ N, Sub M0 N → okOf d xs N := fun d hd => by
    cases d <;> first | exact ⟨hd, fun _ _ => trivial⟩ | exact nomatch hd
  cases v with
  | so x =>
    obtain rfl : e = x := h
    exact va e l
  | sl i =>
    dsimp only [VwV] at h
    have l' : (match getS S i with
      | .va d => items Mn d
      | .vw (.lst xs) => some xs
      | _ => none) = some xs := l
    split at l' <;> try cases l'
    · rename_i q; rw [r.va i _ q] at h; cases h; exact va _ l'
    · rename_i q
      obtain ⟨a, e1, e2, _⟩ := r.vw i _ q
      rw [h] at e1; cases e1
      exact ⟨by simp only [items, r.sub _ _ e2], fun N hN => hN _ _ e2⟩
theorem simi_seq (h : SimV K ta va) : SimI K (iSeq ta) (fSeq va) := fun ad M0 S τ M Q E r q =>
  h ad M0 S τ M _ E r (q.bind fun v S1 M1 r1 q1 d hd => by
    obtain ⟨xs, ex, q1⟩ := q1.of
    obtain ⟨e1, e2⟩ := r1.src hd ex
    exact ok1_of e1 (q1 M1 r1 _ e2))
theorem simi_range1 (h : Sim K t f) : SimI K (iRange1 t) (fRange1 f) := fun ad M0 S τ M Q E r q =>
  h ad M0 S τ M _ E r (q.bind fun ds S1 M1 r1 q1 => by
    split at q1
    · exact ⟨q1.ite.1, q1.ite.2 M1 r1 _ fun _ _ => trivial⟩
    · exact q1.elim)
theorem simi_range2 (h : Sim K t f) : SimI K (iRange2 t) (fRange2 f) := fun ad M0 S τ M Q E r q =>
  h ad M0 S τ M _ E r (q.bind fun ds S1 M1 r1 q1 => by
    split at q1
    · exact ⟨q1.ite.1, q1.ite.2 M1 r1 _ fun _ _ => trivial⟩
    · exact q1.elim)
theorem alike_vw {M : Mp} {x x' y y' : D} (hx : Vw M x x') (hy : Vw M y y') (h : alikeSeq Mn x' y' = true) : alikeSeq M x y = true := by
  rcases hx with rfl | ⟨a, xs, rfl, _, rfl⟩ <;> rcases hy with rfl | ⟨b, ys, rfl, _, rfl⟩
  · exact h
  · cases x <;> first | exact h | exact nomatch h
  · cases y <;> first | exact h | exact nomatch h
  · rfl
theorem simi_zip (h : SimVs K t vs) : SimI K (iZip t) (fZip vs) := fun ad M0 S τ M Q E r q =>
  h ad M0 S τ M _ E r (q.bind fun ws S1 M1 r1 q1 ds hds => by
    split at q1
    · obtain ⟨e1, q1', rfl, h1, e2, q2', rfl, h2, rfl⟩ := hds
      obtain ⟨x, ex, q1⟩ := q1.opt
      obtain ⟨y, ey, q1⟩ := q1.opt
      obtain ⟨al, q1⟩ := q1.ite
      obtain ⟨xs, exs, q1⟩ := q1.opt
      obtain ⟨ys, eys, q1⟩ := q1.opt
      obtain ⟨i1, o1⟩ := r1.src h1 exs
      obtain ⟨i2, o2⟩ := r1.src h2 eys
      exact ⟨alike_vw (r1.look h1 ex) (r1.look h2 ey) al, ok1_of i1 (ok1_of i2 (q1 M1 r1 _ fun N hN => ⟨o1 N hN, o2 N hN⟩))⟩
    · exact q1.elim)
/-! targets -/
def SimW (g : DG) (f : FG) (vs : List Nat) : Prop := ∀ (ad : Nat → Addr) (M0 : Mp) (S : Fs) (τ : Sd) (M : Mp) (d : D) (Q : Sd → Mp → Prop), Rel ad M0 S τ M → (match f d S with
  | .ok _ S1 => ∀ τ1 M1, wipeD τ1 vs = wipeD τ vs → Rel ad M0 S1 τ1 M1 → Q τ1 M1
  | _ => False) → g d τ M Q
def SimWs (g : DGs) (f : FGs) (vs : List Nat) : Prop := ∀ (ad : Nat → Addr) (M0 : Mp) (S : Fs) (τ : Sd) (M : Mp) (d : List D) (Q : Sd → Mp → Prop), Rel ad M0 S τ M → (match f d S with
  | .ok _ S1 => ∀ τ1 M1, wipeD τ1 vs = wipeD τ vs → Rel ad M0 S1 τ1 M1 → Q τ1 M1
  | _ => False) → g d τ M Q
def SimG (g : DG) (f : FG) : Prop := ∀ (ad : Nat → Addr) (M0 : Mp) (S : Fs) (τ : Sd) (M : Mp) (d : D) (Q : Sd → Mp → Prop), Rel ad M0 S τ M → (match f d S with
  | .ok _ S1 => ∀ τ1 M1, Rel ad M0 S1 τ1 M1 → Q τ1 M1
  | _ => False) → g d τ M Q
def SimGs (g : DGs) (f : FGs) : Prop := ∀ (ad : Nat → Addr) (M0 : Mp) (S : Fs) (τ : Sd) (M : Mp) (d : List D) (Q : Sd → Mp → Prop), Rel ad M0 S τ M → (match f d S with
  | .ok _ S1 => ∀ τ1 M1, Rel ad M0 S1 τ1 M1 → Q τ1 M1
  | _ => False) → g d τ M Q
theorem wipeD_len (τ : Sd) : ∀ vs : List Nat, (wipeD τ vs).length = τ.length
  | [] => rfl
  | v :: vs => by simp only [wipeD, setV_len, wipeD_len τ vs]
theorem getV_wipe (τ : Sd) (j : Nat) : ∀ vs : List Nat, getV (wipeD τ vs) j = if j ∈ vs then none else getV τ j
  | [] => by simp [wipeD]
  | v :: vs => by
    unfold wipeD
    rw [getV_setV, getV_wipe τ j vs]
    by_cases h : v = j
    · subst h; simp
    · rw [if_neg h]
      by_cases h2 : j ∈ vs
      · rw [if_pos h2, if_pos (List.mem_cons_of_mem _ h2)]
      · rw [if_neg h2, if_neg]
        intro z
        rcases List.mem_cons.mp z with z | z
        · exact h z.symm
        · exact h2 z
theorem sd_ext : ∀ {τ τ' : Sd}, τ.length = τ'.length → (∀ j, getV τ j = getV τ' j) → τ = τ'
  | [], [], _, _ => rfl
  | x :: r, y :: r', hl, h => by
    have e : x = y := h 0
    rw [e, sd_ext (τ := r) (τ' := r') (by simpa using hl) fun j => h (j + 1)]
  | [], _ :: _, hl, _ => by simp at hl
  | _ :: _, [], hl, _ => by simp at hl
theorem wipeD_set {τ : Sd} {i : Nat} {x : Option D} {vs : List Nat} (h : i ∈ vs) : wipeD (setV τ i x) vs = wipeD τ vs := by
  refine sd_ext (by rw [wipeD_len, wipeD_len, setV_len]) fun j => ?_
  rw [getV_wipe, getV_wipe]
  split
  · rfl
  · rename_i hj
    rw [getV_setV, if_neg (fun z => hj (by rw [← z]; exact h))]
theorem simw_var {vs : List Nat} (h : i ∈ vs := by decide) : SimW (gVar i) (fgVar i) vs := fun ad M0 S τ M d Q r q => q _ _ (wipeD_set h) (r.set_va i d)
theorem simw_nil {vs : List Nat} : SimWs gNil fgNil vs := fun ad M0 S τ M d Q r q => by
  cases d with
  | nil => exact q _ _ rfl r
  | cons => exact q.elim
theorem simw_cons {vs : List Nat} {g : DG} {gs : DGs} {f : FG} {fs : FGs} (h : SimW g f vs) (h2 : SimWs gs fs vs) : SimWs (gCons g gs) (fgCons f fs) vs := fun ad M0 S τ M d Q r q => by
  cases d with
  | nil => exact q.elim
  | cons d ds =>
    refine h ad M0 S τ M d _ r ?_
    simp only [fgCons] at q
    cases e : f d S with
    | ok a S1 =>
      rw [e] at q
      exact fun τ1 M1 w1 r1 => h2 ad M0 S1 τ1 M1 ds Q r1 (by
        have q : (match fs ds S1 with
          | .ok _ S2 => ∀ τ1 M1, wipeD τ1 vs = wipeD τ vs → Rel ad M0 S2 τ1 M1 → Q τ1 M1
          | _ => False) := q
        split at q
        · exact fun τ2 M2 w2 r2 => q τ2 M2 (w2.trans w1) r2
        · exact q)
    | ex c fs S1 => rw [e] at q; exact q
    | un => rw [e] at q; exact q
theorem simw_tup {vs : List Nat} {n : Nat} {gs : DGs} {fs : FGs} (h : SimWs gs fs vs) : SimW (gTup n gs) (fgTup n fs) vs := fun ad M0 S τ M d Q r q => by
  cases d <;> try exact q.elim
  rename_i ds
  unfold fgTup at q
  dsimp only at q
  split at q
  · rename_i hr
    split at hr
    · rename_i hn; exact ⟨hn, h ad M0 S τ M ds Q r (by rw [hr]; exact q)⟩
    · cases hr
  · exact q.elim
theorem simg_var : SimG (gVar i) (fgVar i) := fun ad M0 S τ M d Q r q => q _ _ (r.set_va i d)
theorem simg_nil : SimGs gNil fgNil := fun ad M0 S τ M d Q r q => by
  cases d with
  | nil => exact q _ _ r
  | cons => exact q.elim
theorem simg_cons {g : DG} {gs : DGs} {f : FG} {fs : FGs} (h : SimG g f) (h2 : SimGs gs fs) : SimGs (gCons g gs) (fgCons f fs) := fun ad M0 S τ M d Q r q => by
  cases d with
  | nil => exact q.elim
  | cons d ds =>
    refine h ad M0 S τ M d _ r ?_
    simp only [fgCons] at q
    cases e : f d S with
    | ok a S1 =>
      rw [e] at q
      exact fun τ1 M1 r1 => h2 ad M0 S1 τ1 M1 ds Q r1 q
    | ex c fs S1 => rw [e] at q; exact q
    | un => rw [e] at q; exact q
theorem simg_tup {n : Nat} {gs : DGs} {fs : FGs} (h : SimGs gs fs) : SimG (gTup n gs) (fgTup n fs) := fun ad M0 S τ M d Q r q => by
  cases d <;> try exact q.elim
  rename_i ds
  unfold fgTup at q
  dsimp only at q
  split at q
  · rename_i hr
    split at hr
    · rename_i hn; exact ⟨hn, h ad M0 S τ M ds Q r (by rw [hr]; exact q)⟩
    · cases hr
  · exact q.elim
/-! comprehensions -/
theorem Rel.priv {ad : Nat → Addr} {M0 M : Mp} {S : Fs} {τ : Sd} (r : Rel ad M0 S τ M) {p : Addr} (hp : M p = none) : Rel ad (put M0 p .priv) S τ (put M p .priv) := by
  have h0 := r.sub.free hp
  refine ⟨r.len, r.va, fun i t o h => ?_, fun i o h => ?_, r.inj, fun b w hb => ?_⟩
  · obtain ⟨a, b, c, d, e⟩ := r.ow i t o h
    exact ⟨a, b, by rw [put_ne (ne_fresh c hp)]; exact c, by rw [put_ne (ne_fresh c hp)]; exact d, e⟩
  · obtain ⟨a, b, c, e⟩ := r.vw i o h
    exact ⟨a, b, by rw [put_ne (ne_fresh c h0)]; exact c, e⟩
  · by_cases z : b = p
    · subst z; rw [put_same] at hb ⊢; exact hb
    · rw [put_ne z] at hb ⊢; exact r.sub b w hb
theorem Rel.unpriv {ad : Nat → Addr} {M0 M : Mp} {S : Fs} {τ : Sd} {p : Addr} (r : Rel ad (put M0 p .priv) S τ M) (h0 : M0 p = none) : Rel ad M0 S τ (del M p) := by
  refine ⟨r.len, r.va, fun i t o h => ?_, fun i o h => ?_, r.inj, fun b w hb => ?_⟩
  · obtain ⟨a, b, c, d, e⟩ := r.ow i t o h
    have ne : a ≠ p := fun z => by subst z; rw [put_same] at d; cases d
    exact ⟨a, b, by rw [del_ne ne]; exact c, by rw [put_ne ne] at d; exact d, e⟩
  · obtain ⟨a, b, c, e⟩ := r.vw i o h
    have ne : a ≠ p := fun z => by subst z; rw [put_same] at c; cases c; exact e rfl
    exact ⟨a, b, by rw [put_ne ne] at c; exact c, e⟩
  · have ne : b ≠ p := fun z => by subst z; rw [h0] at hb; cases hb
    rw [del_ne ne]; exact r.sub b w (by rw [put_ne ne]; exact hb)
theorem getS_wipe (S : Fs) (j : Nat) : ∀ vs : List Nat, getS (wipeS S vs) j = if j ∈ vs then .no else getS S j
  | [] => by simp [wipeS]
  | v :: vs => by
    unfold wipeS
    rw [getS_set, getS_wipe S j vs]
    by_cases h : v = j
    · subst h; simp
    · rw [if_neg h]
      by_cases h2 : j ∈ vs
      · rw [if_pos h2, if_pos (List.mem_cons_of_mem _ h2)]
      · rw [if_neg h2, if_neg]
        intro z
        rcases List.mem_cons.mp z with z | z
        · exact h z.symm
        · exact h2 z
theorem wipeS_len (S : Fs) : ∀ vs : List Nat, (wipeS S vs).length = S.length
  | [] => rfl
  | v :: vs => by simp only [wipeS, setS_len, wipeS_len S vs]
/-- slots that may have been changed are told no more -/
theorem Rel.unwipe {ad : Nat → Addr} {M0 M : Mp} {S : Fs} {τ : Sd} {vs : List Nat} (r : Rel ad M0 (wipeS S vs) (wipeD τ vs) M) : Rel ad M0 (wipeS S vs) τ M := by
  have g : ∀ j, getS (wipeS S vs) j ≠ .no → getV (wipeD τ vs) j = getV τ j := fun j h => by
    rw [getS_wipe] at h
    rw [getV_wipe]
    split at h
    · exact absurd rfl h
    · rename_i hj; rw [if_neg hj]
  refine ⟨by rw [← r.len, wipeD_len], fun i d h => ?_, fun i t o h => ?_, fun i o h => ?_, fun i j a h1 h2 e1 e2 => ?_, r.sub⟩
  · rw [← g i (by rw [h]; exact fun z => nomatch z)]; exact r.va i d h
  · rw [← g i (by rw [h]; exact fun z => nomatch z)]; exact r.ow i t o h
  · rw [← g i (by rw [h]; exact fun z => nomatch z)]; exact r.vw i o h
  · rw [← g i (fun z => by rw [z] at h1; cases h1)] at e1
    rw [← g j (fun z => by rw [z] at h2; cases h2)] at e2
    exact r.inj i j a h1 h2 e1 e2
theorem Rel.put_va {ad : Nat → Addr} {M0 M : Mp} {S : Fs} {τ : Sd} (r : Rel ad M0 S τ M) {i : Nat} {x : SV} (h : ∀ d, x = .va d → getV τ i = some d) (hx : x.isR = false) : Rel ad M0 (setS S i x) τ M := by
  have same : ∀ j, (getS (setS S i x) j).isR = true → i ≠ j ∧ (getS S j).isR = true := fun j hj => by
    rw [getS_set] at hj
    split at hj
    · split at hj
      · rw [hx] at hj; cases hj
      · cases hj
    · exact ⟨by assumption, hj⟩
  refine ⟨by rw [setS_len, r.len], fun j d e => ?_, fun j t o e => ?_, fun j o e => ?_, fun j k a h1 h2 e1 e2 => ?_, r.sub⟩
  · rw [getS_set] at e
    split at e
    · subst i
      split at e
      · exact h d e
      · cases e
    · exact r.va j d e
  · obtain ⟨n, _⟩ := same j (by rw [e]; rfl)
    rw [getS_ne _ _ _ _ n] at e
    exact r.ow j t o e
  · obtain ⟨n, _⟩ := same j (by rw [e]; rfl)
    rw [getS_ne _ _ _ _ n] at e
    exact r.vw j o e
  · exact r.inj j k a (same j h1).2 (same k h2).2 e1 e2
theorem Rel.back {ad : Nat → Addr} {M0 M M1 : Mp} {S0 : Fs} {τ : Sd} (r0 : Rel ad M0 S0 τ M) : ∀ {vs : List Nat} {S : Fs}, Rel ad M0 S τ M1 → Rel ad M0 (backS S0 S vs) τ M1
  | [], S, r => r
  | v :: vs, S, r => (Rel.back r0 (vs := vs) r).put_va (i := v) (x := match getS S0 v with
    | .va d => .va d
    | _ => .no) (fun d h => by
      split at h
      · rename_i e; cases h; exact r0.va v _ e
      · cases h) (by split <;> rfl)
theorem backS_wipe (S0 S : Fs) : ∀ vs : List Nat, backS S0 (wipeS S vs) vs = backS S0 S vs := by
  have ext : ∀ {A B : Fs}, A.length = B.length → (∀ j, getS A j = getS B j) → A = B := by
    intro A
    induction A with
    | nil => intro B hl _; cases B with
      | nil => rfl
      | cons => simp at hl
    | cons x r ih => intro B hl h; cases B with
      | nil => simp at hl
      | cons y r' =>
        have e : x = y := h 0
        rw [e, ih (by simpa using hl) fun j => h (j + 1)]
  have len : ∀ (vs : List Nat) (S : Fs), (backS S0 S vs).length = S.length := by
    intro vs
    induction vs with
    | nil => intro S; rfl
    | cons v vs ih => intro S; simp only [backS, setS_len, ih]
  have get : ∀ (vs : List Nat) (S S' : Fs), S.length = S'.length → (∀ j, j ∉ vs → getS S j = getS S' j) → ∀ j, getS (backS S0 S vs) j = getS (backS S0 S' vs) j := by
    intro vs
    induction vs with
    | nil => intro S S' _ h j; exact h j (by simp)
    | cons v vs ih =>
      intro S S' hl h j
      unfold backS
      rw [getS_set, getS_set, len, len, hl]
      split
      · rfl
      · rename_i hv
        by_cases hj : j ∈ vs
        · -- told by what stood before
          have told : ∀ (us : List Nat) (T T' : Fs), T.length = T'.length → j ∈ us → getS (backS S0 T us) j = getS (backS S0 T' us) j := by
            intro us
            induction us with
            | nil => intro _ _ _ h; simp at h
            | cons u us ih2 =>
              intro T T' hl h
              unfold backS
              rw [getS_set, getS_set, len, len, hl]
              split
              · rfl
              · rename_i hu
                exact ih2 T T' hl ((List.mem_cons.mp h).elim (fun z => absurd z.symm hu) id)
          exact told vs S S' hl hj
        · have keep : ∀ (us : List Nat) (T : Fs), j ∉ us → getS (backS S0 T us) j = getS T j := by
            intro us
            induction us with
            | nil => intro _ _; rfl
            | cons u us ih2 =>
              intro T h
              unfold backS
              rw [getS_ne _ _ _ _ (fun z => h (by rw [z]; exact List.mem_cons_self))]
              exact ih2 T fun z => h (List.mem_cons_of_mem _ z)
          rw [keep vs S hj, keep vs S' hj]
          exact h j fun z => (List.mem_cons.mp z).elim (fun z => hv z.symm) hj
  intro vs
  exact ext (by rw [len, len, wipeS_len]) (get vs _ _ (wipeS_len S vs) fun j hj => by rw [getS_wipe, if_neg hj])
theorem wipeS_wipe (S : Fs) (vs : List Nat) : wipeS (wipeS S vs) vs = wipeS S vs := by
  have ext : ∀ {A B : Fs}, A.length = B.length → (∀ j, getS A j = getS B j) → A = B := by
    intro A
    induction A with
    | nil => intro B hl _; cases B with
      | nil => rfl
      | cons => simp at hl
    | cons x r ih => intro B hl h; cases B with
      | nil => simp at hl
      | cons y r' =>
        have e : x = y := h 0
        rw [e, ih (by simpa using hl) fun j => h (j + 1)]
  refine ext (by rw [wipeS_len]) fun j => ?_
  rw [getS_wipe, getS_wipe]
  split <;> rfl
theorem comp_sim {g : DG} {gf : FG} {tt : DT} {tf : FT} {te : DE} {ef : FE} {vs : List Nat} {ok : Mp → Prop} {p : Addr} {ad : Nat → Addr} {M0 : Mp} {τ : Sd} {k : List D → Mp → Prop} (hg : SimW g gf vs) (ht : Sim K tt tf) (he : Sim K te ef) (hok : ∀ N, Sub M0 N → ok N) (h0 : M0 p = some .priv) :
    ∀ (ds acc : List D) (S : Fs) (M : Mp), Rel ad M0 (wipeS S vs) (wipeD τ vs) M → (match compF gf tf ef vs ds S with
      | .ok ys S1 => ∀ M1, Rel ad M0 (wipeS S1 vs) (wipeD τ vs) M1 → k (acc ++ ys) M1
      | _ => False) → compT ok g tt te p (wipeD τ vs) k ds acc M
  | [], acc, S, M, r, q => ⟨hok M r.sub, r.sub _ _ h0, by simpa using q M r⟩
  | d :: ds, acc, S, M, r, q => by
    refine ⟨hok M r.sub, r.sub _ _ h0, hg ad M0 (wipeS S vs) _ M d _ r ?_⟩
    unfold compF at q
    cases e : gf d (wipeS S vs) with
    | ex c fs S1 => rw [e] at q; exact q.elim
    | un => rw [e] at q; exact q.elim
    | ok a S1 =>
      rw [e] at q
      dsimp only
      intro τ1 M1 w1 r1
      have w1 : wipeD τ1 vs = wipeD τ vs := by
        rw [w1]
        refine sd_ext (by rw [wipeD_len]) fun j => ?_
        rw [getV_wipe]
        split
        · rename_i hj; rw [getV_wipe, if_pos hj]
        · rfl
      refine ht ad M0 S1 τ1 M1 _ _ r1 ?_
      dsimp only [R.bnd] at q
      cases e2 : tf S1 with
      | ex c fs S2 => rw [e2] at q; exact q.elim
      | un => rw [e2] at q; exact q.elim
      | ok b S2 =>
        rw [e2] at q
        dsimp only at q
        intro M2 r2
        cases b with
        | false =>
          rw [if_neg Bool.false_ne_true] at q ⊢
          refine comp_sim hg ht he hok h0 ds acc S2 M2 ?_ q
          rw [← w1]; exact r2.wipe vs
        | true =>
          rw [if_pos rfl] at q ⊢
          refine he ad M0 S2 τ1 M2 _ _ r2 ?_
          cases e3 : ef S2 with
          | ex c fs S3 => rw [e3] at q; exact q.elim
          | un => rw [e3] at q; exact q.elim
          | ok y S3 =>
            rw [e3] at q
            dsimp only at q
            intro M3 r3
            refine comp_sim hg ht he hok h0 ds (acc ++ [y]) S3 M3 (by rw [← w1]; exact r3.wipe vs) ?_
            cases e4 : compF gf tf ef vs ds S3 with
            | ex c fs S4 => rw [e4] at q; exact q.elim
            | un => rw [e4] at q; exact q.elim
            | ok ys S4 =>
              rw [e4] at q
              dsimp only at q ⊢
              intro M4 r4
              rw [List.append_assoc]
              exact q M4 r4
/-- an expression that gives a new list of its own -/
def SimO (K : PySem.W.Frag) (t : DE) (f : FI) : Prop := ∀ (ad : Nat → Addr) (M0 : Mp) (S : Fs) (τ : Sd) (M : Mp) (Q : DK) (E : DX), Rel ad M0 S τ M → post K ad M0 τ (f S) (fun xs M1 => ∀ p, M1 p = none → Q (.ref p) (put M1 p (.lst xs))) E → t τ M Q E
theorem simo_lst (h : Sim K t f) : SimO K (dLstM t) (fLstO f) := fun ad M0 S τ M Q E r q =>
  h ad M0 S τ M _ E r (q.bind fun ds S1 M1 r1 q1 => ⟨q1.ite.1, fun p hp => q1.ite.2 M1 r1 p hp⟩)
theorem comp_end {ad : Nat → Addr} {M0 M M1 : Mp} {S S1 : Fs} {τ : Sd} {vs : List Nat} {p : Addr} (r : Rel ad M0 S τ M) (hp : M p = none) (r1 : Rel ad (put M0 p .priv) (wipeS S1 vs) (wipeD τ vs) M1) : Rel ad M0 (backS S S1 vs) τ (del M1 p) := by
  rw [← backS_wipe]
  exact r.back (r1.unwipe.unpriv (r.sub.free hp))
theorem comp_gen {g : DG} {gf : FG} {tt : DT} {tf : FT} {ef : FE} {vs : List Nat} {wi : DI} {it : FI} (hi : SimI K wi it) (hg : SimW g gf vs) (ht : Sim K tt tf) (he : Sim K te ef) {ad : Nat → Addr} {M0 : Mp} {S : Fs} {τ : Sd} {M : Mp} {Q : List D → Addr → Mp → Prop} {E : DX} (r : Rel ad M0 S τ M)
    (q : post K ad M0 τ (fComp it gf tf ef vs S) (fun xs M1 => ∀ p M2, M1 = del M2 p → M1 p = none → Q xs p M2) E) :
    wi τ M (fun ds ok M1 => ∀ p, M1 p = none → compT ok g tt te p (wipeD τ vs) (fun acc M2 => Q acc p M2) ds [] (put M1 p .priv)) E := by
  refine hi ad M0 S τ M _ E r (q.bind fun ds S1 M1 r1 q1 ok hok p hp => ?_)
  have sub : ∀ N, Sub (put M0 p .priv) N → Sub M0 N := fun N h b w hb => h b w (by rw [put_ne (ne_fresh hb (r1.sub.free hp))]; exact hb)
  refine comp_sim hg ht he (fun N h => hok N (sub N h)) put_same ds [] S1 _ ((r1.priv hp).wipe vs) ?_
  cases e : compF gf tf ef vs ds S1 with
  | ex c fs S2 => rw [e] at q1; exact q1.elim
  | un => rw [e] at q1; exact q1.elim
  | ok ys S2 =>
    rw [e] at q1
    dsimp only [R.bnd] at q1
    dsimp only
    intro M2 r2
    exact q1 (del M2 p) (comp_end r1 hp r2) p M2 rfl del_same
theorem sim_comp {g : DG} {gf : FG} {tt : DT} {tf : FT} {ef : FE} {vs : List Nat} {wi : DI} {it : FI} (hi : SimI K wi it) (hg : SimW g gf vs) (ht : Sim K tt tf) (he : Sim K te ef) : Sim K (dComp wi g tt te vs) (toL (fComp it gf tf ef vs)) := fun ad M0 S τ M Q E r q =>
  comp_gen (Q := fun acc p M2 => Q (.lst acc) (del M2 p)) hi hg ht he r (q.bind fun xs S1 M1 r1 q1 p M2 e hp => by subst e; exact q1 _ r1)
theorem simo_comp {g : DG} {gf : FG} {tt : DT} {tf : FT} {ef : FE} {vs : List Nat} {wi : DI} {it : FI} (hi : SimI K wi it) (hg : SimW g gf vs) (ht : Sim K tt tf) (he : Sim K te ef) : SimO K (dCompM wi g tt te vs) (fComp it gf tf ef vs) := fun ad M0 S τ M Q E r q =>
  comp_gen (Q := fun acc p M2 => Q (.ref p) (put M2 p (.lst acc))) hi hg ht he r (by
    cases e : fComp it gf tf ef vs S with
    | ok xs S1 =>
      rw [e] at q
      intro M1 r1 p M2 e2 hp
      have := q M1 r1 p hp
      subst e2
      have e3 : put (del M2 p) p (.lst xs) = put M2 p (.lst xs) := by
        funext b; unfold put del; split <;> rfl
      rw [e3] at this; exact this
    | ex c fs S1 => rw [e] at q; exact q
    | un => rw [e] at q; exact q)
theorem sim_bor {α : Type} {t : DY α} {f : Fs → R α} (j : Nat) (h : Sim K t f) : Sim K t (fBor j f) := fun ad M0 S τ M Q E r q => by
  unfold fBor at q
  split at q
  · rename_i t' xs hj
    obtain ⟨a, e1, hM, h0, ht, np⟩ := r.ow j t' _ hj
    refine h ad (put M0 a (.lst xs)) _ τ M Q E (r.bor hj e1) ?_
    cases e : f (setS S j (.vw (.lst xs))) with
    | ex c fs S1 => rw [e] at q; exact q.elim
    | un => rw [e] at q; exact q.elim
    | ok x S1 =>
      rw [e] at q
      obtain ⟨hR, q⟩ := post.ite q
      intro M1 r1
      exact q M1 (r1.give h0 e1 ht np hR)
  · exact h ad M0 S τ M Q E r q
theorem simo_bor {t : DE} {f : FI} (j : Nat) (h : SimO K t f) : SimO K t (fBor j f) := fun ad M0 S τ M Q E r q => by
  unfold fBor at q
  split at q
  · rename_i t' xs hj
    obtain ⟨a, e1, hM, h0, ht, np⟩ := r.ow j t' _ hj
    refine h ad (put M0 a (.lst xs)) _ τ M Q E (r.bor hj e1) ?_
    cases e : f (setS S j (.vw (.lst xs))) with
    | ex c fs S1 => rw [e] at q; exact q.elim
    | un => rw [e] at q; exact q.elim
    | ok x S1 =>
      rw [e] at q
      obtain ⟨hR, q⟩ := post.ite q
      intro M1 r1
      exact q M1 (r1.give h0 e1 ht np hR)
  · exact h ad M0 S τ M Q E r q
end
end DL

/-! Statements, defs and calls as functions over slots. -/
namespace DL
open PySem PySem.Spec PyProof.Rows L2
inductive Out where
  | nx (S : Fs) | rt (d : D) (S : Fs) | ro (xs : List D) (S : Fs) | bk (S : Fs) | ct (S : Fs) | ex (c : Str) (fs : DFs) (S : Fs) | un
abbrev FS := Fs → Out
abbrev FF := List SV → R D
def R.out {α : Type} (r : R α) (k : α → Fs → Out) : Out := match r with
  | .ok a S => k a S
  | .ex c fs S => .ex c fs S
  | .un => .un
def R.ou {α : Type} (r : R α) (k : α → Fs → Out) : Out := match r with
  | .ok a S => k a S
  | _ => .un
def Out.opt {α : Type} (o : Option α) (k : α → Out) : Out := match o with
  | some a => k a
  | none => .un
@[simp] theorem R.out_ok {α : Type} {a : α} {S : Fs} {k : α → Fs → Out} : (R.ok a S).out k = k a S := of_eq_true (eq_self _)
@[simp] theorem R.out_ex {α : Type} {c : Str} {fs : DFs} {S : Fs} {k : α → Fs → Out} : (R.ex c fs S : R α).out k = .ex c fs S := of_eq_true (eq_self _)
@[simp] theorem R.ou_ok {α : Type} {a : α} {S : Fs} {k : α → Fs → Out} : (R.ok a S).ou k = k a S := of_eq_true (eq_self _)
@[simp] theorem Out.opt_some {α : Type} {a : α} {k : α → Out} : Out.opt (some a) k = k a := of_eq_true (eq_self _)
def ownL (S : Fs) (i : Nat) : Option (List D) := match getS S i with
  | .ow _ (.lst xs) => some xs
  | _ => none
def putL (S : Fs) (i : Nat) (xs : List D) : Fs := match getS S i with
  | .ow t _ => setS S i (.ow t (.lst xs))
  | _ => S
def one1 {α : Type} : List α → Option α
  | [a] => some a
  | _ => none
/-! methods of own lists -/
def fApp (i : Nat) (f : FAs) : FE := fun S => R.opt (ownL S i) fun _ => (f S).bind fun ds S1 => R.opt (one1 ds) fun d => R.opt (ownL S1 i) fun xs => if xs.length < sizeLine then .ok .non (putL S1 i (xs ++ [d])) else .un
def fPop0 (i : Nat) : FE := fun S => R.opt (ownL S i) fun xs => R.opt (xs[xs.length - 1]?) fun y => .ok y (putL S i xs.dropLast)
def fPopI (i : Nat) (f : FAs) : FE := fun S => R.opt (ownL S i) fun _ => (f S).bind fun ds S1 => R.opt (one1 ds) fun d => R.opt (intD d) fun k => R.opt (ownL S1 i) fun xs => if -(2 ^ 63) ≤ k ∧ k < 2 ^ 63 then R.opt (seqIndex? k xs.length) fun n => R.opt xs[n]? fun y => .ok y (putL S1 i (xs.eraseIdx n)) else .un
def lstD : D → Option (List D)
  | .lst xs => some xs
  | _ => none
def fExt (i : Nat) (f : FVs) : FE := fun S => R.opt (ownL S i) fun _ => (f S).bind fun vs S1 => R.opt (looks S1 vs) fun ds => R.opt (one1 ds) fun d => R.opt (lstD d) fun zs => R.opt (ownL S1 i) fun xs => if xs.length + zs.length ≤ sizeLine then .ok .non (putL S1 i (xs ++ zs)) else .un
def fgSub (i : Nat) (f : FE) : FG := fun d S => R.opt (ownL S i) fun _ => (f S).bnd fun k S1 => R.opt (intD k) fun k => R.opt (ownL S1 i) fun xs => R.opt (L2.ixN xs.length k) fun j => .ok () (putL S1 i (xs.set j d))
/-! calls -/
def fCall (F : FF) (a : FAs) : FE := fun S => (a S).bind fun ds S1 => match F (ds.map .va) with
  | .ok d _ => .ok d S1
  | .ex c fs _ => .ex c fs S1
  | .un => .un
def backO (S : Fs) (i : Nat) : SV → Option Fs
  | .ow (some 0) o => (match getS S i with
    | .ow t _ => (match o with
      | .priv => none
      | o => some (setS S i (.ow t o)))
    | _ => none)
  | _ => none
def objS (S : Fs) (i : Nat) : Option OD := match getS S i with
  | .ow _ o => some o
  | _ => none
/-- the first argument is changed -/
def fCallH (F : FF) (i : Nat) (a : FAs) : FE := fun S => R.opt (objS S i) fun _ => (a S).bind fun ds S1 => R.opt (objS S1 i) fun o => match F (.ow (some 0) o :: ds.map .va) with
  | .ok d S2 => R.opt (backO S1 i (getS S2 0)) fun S3 => .ok d S3
  | .ex c fs S2 => R.opt (backO S1 i (getS S2 0)) fun S3 => .ex c fs S3
  | .un => .un
/-- a def hands back a list of its own -/
def fCallO (F : FF) (a : FAs) : FI := fun S => (a S).bind fun ds S1 => match F (ds.map .va) with
  | .ok (.lst xs) _ => .ok xs S1
  | _ => .un
/-! statements -/
def nNext : FS := fun S => .nx S
def nSeq (f g : FS) : FS := fun S => match f S with
  | .nx S1 => g S1
  | o => o
def nDrop (f : FE) : FS := fun S => (f S).out fun _ S1 => .nx S1
def nRet (f : FE) : FS := fun S => (f S).out fun d S1 => .rt d S1
def nRetO (f : FI) : FS := fun S => (f S).out fun xs S1 => .ro xs S1
def nIf (c : FT) (f g : FS) : FS := fun S => (c S).out fun k S1 => if k = true then f S1 else g S1
def nAsg (f : FE) (g : FG) : FS := fun S => (f S).out fun d S1 => (g d S1).ou fun _ S2 => .nx S2
def nAsgO (f : FI) (i : Nat) : FS := fun S => (f S).out fun xs S1 => .nx (setS S1 i (.ow none (.lst xs)))
def nPar (i j : Nat) (f : FAs) : FS := fun S => (f S).out fun ds S1 => match ds with
  | [x, y] => .nx (setS (setS S1 i (.va x)) j (.va y))
  | _ => .un
def nPar3 (i j l : Nat) (f : FAs) : FS := fun S => (f S).out fun ds S1 => match ds with
  | [x, y, z] => .nx (setS (setS (setS S1 i (.va x)) j (.va y)) l (.va z))
  | _ => .un
def nBrk : FS := fun S => .bk S
def nCt : FS := fun S => .ct S
def nRaise (c : Str) : FS := fun S => .ex c [] S
def nNever : FS := fun _ => .un
def forF (g : FG) (b : FS) : List D → FS
  | [], S => .nx S
  | d :: ds, S => (g d S).ou fun _ S1 => match b S1 with
    | .nx S2 => forF g b ds S2
    | .ct S2 => forF g b ds S2
    | .bk S2 => .nx S2
    | o => o
def nFor (it : FI) (g : FG) (b : FS) : FS := fun S => (it S).out fun ds S1 => forF g b ds S1
def whileF (c : FT) (b : FS) : Nat → FS
  | 0, _ => .un
  | n + 1, S => (c S).out fun k S1 => if k = true then (match b S1 with
    | .nx S2 => whileF c b n S2
    | .ct S2 => whileF c b n S2
    | .bk S2 => .nx S2
    | o => o) else .nx S1
def nWhile (n : Nat) (c : FT) (b : FS) : FS := whileF c b n
def nFrz (i : Nat) (f : FS) : FS := fun S => match getS S i with
  | .ow none (.lst xs) => f (setS S i (.va (.lst xs)))
  | .va _ => f S
  | _ => .un
/-- an except clause: the classes that it takes, those that it lets pass, its suite -/
abbrev FH := List Str × List Str × FS
def catchF (c : Str) (fs : DFs) (S : Fs) : List FH → Out
  | [] => .ex c fs S
  | (y, n, f) :: r => if c ∈ y then (match f S with
    | .ex _ _ _ => .un
    | o => o) else if c ∈ n then catchF c fs S r else .un
def nTry (b : FS) (hs : List FH) : FS := fun S => match b S with
  | .ex c fs S1 => catchF c fs S1 hs
  | o => o
/-! defs -/
def startS (m : Nat) (vs : List SV) : Fs := vs ++ List.replicate (m - vs.length) .no
def runF (m : Nat) (f : FS) : FF := fun vs => match f (startS m vs) with
  | .nx S => .ok .non S
  | .rt d S => .ok d S
  | .ex c fs S => .ex c fs S
  | _ => .un
def runO (m : Nat) (f : FS) : FF := fun vs => match f (startS m vs) with
  | .ro xs S => .ok (.lst xs) S
  | .ex c fs S => .ex c fs S
  | _ => .un
/-! ### they hold -/
def postS (K : PySem.W.Frag) (ad : Nat → Addr) (M0 : Mp) (o : Out) (En : DEnds) : Prop := match o with
  | .nx S => ∀ τ M, Rel ad M0 S τ M → En.nx τ M
  | .rt d S => ∀ τ M, Rel ad M0 S τ M → En.rt d M
  | .ro xs S => ∀ τ M p, Rel ad M0 S τ M → M p = none → En.rt (.ref p) (put M p (.lst xs))
  | .bk S => ∀ τ M, Rel ad M0 S τ M → En.bk τ M
  | .ct S => ∀ τ M, Rel ad M0 S τ M → En.ct τ M
  | .ex c fs S => ∀ τ M, Rel ad M0 S τ M → En.ex (cl K c) fs τ M
  | .un => False
def SimS (K : PySem.W.Frag) (t : DS) (f : FS) : Prop := ∀ (ad : Nat → Addr) (M0 : Mp) (S : Fs) (τ : Sd) (M : Mp) (En : DEnds), Rel ad M0 S τ M → postS K ad M0 (f S) En → t En τ M
section
variable {K : PySem.W.Frag} {α : Type} {ta tb tc te : DE} {fa fb fc fe : FE} {va vb vc : FV} {i j l : Nat} {t : DA} {f : FAs} {vs : FVs} {A B : DT} {FA FB : FT} {u v : DS} {fu fv : FS}
theorem Rel.ownL {ad : Nat → Addr} {M0 M : Mp} {S : Fs} {τ : Sd} (r : Rel ad M0 S τ M) {xs : List D} (h : DL.ownL S i = some xs) : ∃ a, getV τ i = some (.ref a) ∧ M a = some (.lst xs) ∧ ∀ ys, Rel ad M0 (putL S i ys) τ (put M a (.lst ys)) := by
  unfold DL.ownL at h
  split at h <;> cases h
  rename_i t e
  obtain ⟨a, e1, hM, _⟩ := r.ow i t _ e
  refine ⟨a, e1, hM, fun ys => ?_⟩
  unfold putL
  rw [e]
  exact r.upd e e1 (.lst ys) (fun z => nomatch z)
theorem one1_some {ds : List α} {d : α} (h : one1 ds = some d) : ds = [d] := by
  unfold one1 at h
  split at h <;> cases h
  rfl
theorem sim_app (h : Sim K t f) : Sim K (dMeth tyLst rApp (dVar i) t) (fApp i f) := fun ad M0 S τ M Q E r q => by
  obtain ⟨ys, ey, q⟩ := q.opt
  obtain ⟨a, e1, hM, _⟩ := r.ownL ey
  refine ok1_of e1 ⟨⟨a, ys, rfl, hM⟩, h ad M0 S τ M _ E r (q.bind fun ds S1 M1 r1 q1 => ?_)⟩
  obtain ⟨d, ed, q1⟩ := q1.opt
  obtain ⟨xs, ex, q1⟩ := q1.opt
  obtain ⟨hl, q1⟩ := q1.ite
  obtain ⟨b, e2, hM1, up⟩ := r1.ownL ex
  rw [e1] at e2; cases e2
  rw [one1_some ed]
  show match M1 a with | some (.lst xs) => _ | _ => False
  rw [hM1]
  exact ⟨hl, q1 _ (up _)⟩
theorem sim_pop0 : Sim K (dMeth tyLst rPop0 (dVar i) dNil) (fPop0 i) := fun ad M0 S τ M Q E r q => by
  obtain ⟨xs, ex, q⟩ := q.opt
  obtain ⟨y, ey, q⟩ := q.opt
  obtain ⟨a, e1, hM, up⟩ := r.ownL ex
  exact ok1_of e1 ⟨⟨a, xs, rfl, hM⟩, a, xs, y, rfl, rfl, hM, ey, q _ (up _)⟩
theorem intD_some {d : D} {k : Int} (h : intD d = some k) : d = .int k := by
  cases d <;> simp only [intD, reduceCtorEq, Option.some.injEq] at h
  rw [h]
theorem lstD_some {d : D} {k : List D} (h : lstD d = some k) : d = .lst k := by
  cases d <;> simp only [lstD, reduceCtorEq, Option.some.injEq] at h
  rw [h]
theorem sim_popI (h : Sim K t f) : Sim K (dMeth tyLst rPopI (dVar i) t) (fPopI i f) := fun ad M0 S τ M Q E r q => by
  obtain ⟨ys, ey, q⟩ := q.opt
  obtain ⟨a, e1, hM, _⟩ := r.ownL ey
  refine ok1_of e1 ⟨⟨a, ys, rfl, hM⟩, h ad M0 S τ M _ E r (q.bind fun ds S1 M1 r1 q1 => ?_)⟩
  obtain ⟨d, ed, q1⟩ := q1.opt
  obtain ⟨k, ek, q1⟩ := q1.opt
  obtain ⟨xs, ex, q1⟩ := q1.opt
  obtain ⟨hk, q1⟩ := q1.ite
  obtain ⟨n, en, q1⟩ := q1.opt
  obtain ⟨y, ey, q1⟩ := q1.opt
  obtain ⟨b, e2, hM1, up⟩ := r1.ownL ex
  rw [e1] at e2; cases e2
  rw [one1_some ed, intD_some ek]
  exact ⟨a, xs, k, n, y, rfl, rfl, hM1, hk.1, hk.2, en, ey, q1 _ (up _)⟩
theorem looks_one {τ : Sd} {M : Mp} {ds es : List D} {d : D} (h : Vws M es ds) (e : one1 ds = some d) : ∃ x, es = [x] ∧ Vw M x d := by
  rw [one1_some e] at h
  exact vws1 h
theorem sim_ext (h : SimVs K t vs) : Sim K (dMeth tyLst rExt (dVar i) t) (fExt i vs) := fun ad M0 S τ M Q E r q => by
  obtain ⟨ys, ey, q⟩ := q.opt
  obtain ⟨a, e1, hM, _⟩ := r.ownL ey
  refine ok1_of e1 ⟨⟨a, ys, rfl, hM⟩, h ad M0 S τ M _ E r (q.bind fun ws S1 M1 r1 q1 es hes => ?_)⟩
  obtain ⟨ds, eds, q1⟩ := q1.opt
  obtain ⟨d, ed, q1⟩ := q1.opt
  obtain ⟨zs, ez, q1⟩ := q1.opt
  obtain ⟨xs, ex, q1⟩ := q1.opt
  obtain ⟨hl, q1⟩ := q1.ite
  obtain ⟨b, e2, hM1, up⟩ := r1.ownL ex
  rw [e1] at e2; cases e2
  obtain ⟨x, rfl, hx⟩ := looks_one (τ := τ) (r1.looks hes eds) ed
  rw [lstD_some ez] at hx
  exact ⟨a, xs, x, zs, rfl, rfl, hM1, (deref_vw hx rfl).trans derefN, hl, q1 _ (up _)⟩
theorem simg_sub {ti : DE} {fi : FE} (h : Sim K ti fi) : SimG (gSub (dVar i) ti) (fgSub i fi) := fun ad M0 S τ M d Q r q => by
  unfold fgSub at q
  cases e0 : ownL S i with
  | none => rw [e0] at q; exact q.elim
  | some ys =>
    rw [e0] at q
    dsimp only [R.opt] at q
    obtain ⟨a, e1, hM, _⟩ := r.ownL e0
    refine ok1_of e1 (h ad M0 S τ M _ _ r ?_)
    cases e2 : fi S with
    | ex c fs S1 => rw [e2] at q; exact q.elim
    | un => rw [e2] at q; exact q.elim
    | ok k S1 =>
      rw [e2] at q
      dsimp only [R.bnd] at q
      intro M1 r1
      cases e3 : intD k with
      | none => rw [e3] at q; exact q.elim
      | some z =>
        rw [e3] at q
        dsimp only at q
        cases e4 : ownL S1 i with
        | none => rw [e4] at q; exact q.elim
        | some xs =>
          rw [e4] at q
          dsimp only at q
          cases e5 : L2.ixN xs.length z with
          | none => rw [e5] at q; exact q.elim
          | some n =>
            rw [e5] at q
            obtain ⟨b, e6, hM1, up⟩ := r1.ownL e4
            rw [e1] at e6; cases e6
            rw [intD_some e3]
            refine ok1_of (a := put M1 a (.lst (xs.set n d))) ?_ (q _ _ (up _))
            simp only [setAt, hM1, e5]
/-! statements -/
theorem postS.out {ad : Nat → Addr} {M0 : Mp} {τ : Sd} {r : R α} {k : α → Fs → Out} {En : DEnds} {Q : α → Mp → Prop} (q : postS K ad M0 (r.out k) En) (h : ∀ a S1 M1, Rel ad M0 S1 τ M1 → postS K ad M0 (k a S1) En → Q a M1) : post K ad M0 τ r Q (fun c fs M1 => En.ex c fs τ M1) := by
  cases r with
  | ok a S => exact fun M r => h a S M r q
  | ex c fs S => exact fun M r => q τ M r
  | un => exact q
theorem sims_next : SimS K sNext nNext := fun ad M0 S τ M En r q => q τ M r
theorem sims_seq (h : SimS K u fu) (h2 : SimS K v fv) : SimS K (sSeq u v) (nSeq fu fv) := fun ad M0 S τ M En r q => by
  refine h ad M0 S τ M { En with nx := v En } r ?_
  unfold nSeq at q
  cases e : fu S with
  | nx S1 => rw [e] at q; exact fun τ1 M1 r1 => h2 ad M0 S1 τ1 M1 En r1 q
  | rt d S1 => rw [e] at q; exact q
  | ro d S1 => rw [e] at q; exact q
  | bk S1 => rw [e] at q; exact q
  | ct S1 => rw [e] at q; exact q
  | ex c fs S1 => rw [e] at q; exact q
  | un => rw [e] at q; exact q
theorem sims_drop (h : Sim K ta fa) : SimS K (sDrop ta) (nDrop fa) := fun ad M0 S τ M En r q => h ad M0 S τ M _ _ r (q.out fun d S1 M1 r1 q1 => q1 τ M1 r1)
theorem sims_ret (h : Sim K ta fa) : SimS K (sRet ta) (nRet fa) := fun ad M0 S τ M En r q => h ad M0 S τ M _ _ r (q.out fun d S1 M1 r1 q1 => q1 τ M1 r1)
theorem sims_retO {f : FI} (h : SimO K ta f) : SimS K (sRet ta) (nRetO f) := fun ad M0 S τ M En r q => h ad M0 S τ M _ _ r (q.out fun d S1 M1 r1 q1 p hp => q1 τ M1 p r1 hp)
theorem sims_if (hc : Sim K A FA) (h : SimS K u fu) (h2 : SimS K v fv) : SimS K (sIf A u v) (nIf FA fu fv) := fun ad M0 S τ M En r q => hc ad M0 S τ M _ _ r (q.out fun c S1 M1 r1 q1 => by
  cases c with
  | true => exact h ad M0 S1 τ M1 En r1 q1
  | false => exact h2 ad M0 S1 τ M1 En r1 q1)
theorem sims_asg {g : DG} {gf : FG} (h : Sim K ta fa) (hg : SimG g gf) : SimS K (sAsg ta g) (nAsg fa gf) := fun ad M0 S τ M En r q => h ad M0 S τ M _ _ r (q.out fun d S1 M1 r1 q1 => hg ad M0 S1 τ M1 d _ r1 (by
  cases e : gf d S1 with
  | ok a S2 => rw [e] at q1; exact q1
  | ex c fs S2 => rw [e] at q1; exact q1
  | un => rw [e] at q1; exact q1))
theorem sims_asgO {f : FI} (h : SimO K ta f) : SimS K (sAsg ta (gVar i)) (nAsgO f i) := fun ad M0 S τ M En r q => h ad M0 S τ M _ _ r (q.out fun xs S1 M1 r1 q1 p hp => q1 _ _ (r1.set_ow i hp (.lst xs) (fun z => nomatch z)))
theorem sims_par (h : Sim K t f) : SimS K (sPar i j t) (nPar i j f) := fun ad M0 S τ M En r q => h ad M0 S τ M _ _ r (q.out fun ds S1 M1 r1 q1 => by
  split at q1
  · exact q1 _ _ ((r1.set_va i _).set_va j _)
  · exact q1.elim)
theorem sims_par3 (h : Sim K t f) : SimS K (sPar3 i j l t) (nPar3 i j l f) := fun ad M0 S τ M En r q => h ad M0 S τ M _ _ r (q.out fun ds S1 M1 r1 q1 => by
  split at q1
  · exact q1 _ _ (((r1.set_va i _).set_va j _).set_va l _)
  · exact q1.elim)
theorem sims_brk : SimS K sBreak nBrk := fun ad M0 S τ M En r q => q τ M r
theorem sims_ct : SimS K sCont nCt := fun ad M0 S τ M En r q => q τ M r
theorem sims_raise {c : Str} : SimS K (sRaise (cl K c)) (nRaise c) := fun ad M0 S τ M En r q => q τ M r
theorem sims_never : SimS K v nNever := fun ad M0 S τ M En r q => q.elim
theorem for_sim {g : DG} {gf : FG} {ok : Mp → Prop} {ad : Nat → Addr} {M0 : Mp} {En : DEnds} (hg : SimG g gf) (hb : SimS K u fu) (hok : ∀ N, Sub M0 N → ok N) : ∀ (ds : List D) (S : Fs) (τ : Sd) (M : Mp), Rel ad M0 S τ M → postS K ad M0 (forF gf fu ds S) En → forT ok g u En ds τ M
  | [], S, τ, M, r, q => ⟨hok M r.sub, q τ M r⟩
  | d :: ds, S, τ, M, r, q => by
    refine ⟨hok M r.sub, hg ad M0 S τ M d _ r ?_⟩
    unfold forF at q
    cases e : gf d S with
    | ex c fs S1 => rw [e] at q; exact q.elim
    | un => rw [e] at q; exact q.elim
    | ok a S1 =>
      rw [e] at q
      dsimp only [R.ou] at q ⊢
      intro τ1 M1 r1
      refine hb ad M0 S1 τ1 M1 _ r1 ?_
      cases e2 : fu S1 with
      | nx S2 => rw [e2] at q; exact fun τ2 M2 r2 => for_sim hg hb hok ds S2 τ2 M2 r2 q
      | ct S2 => rw [e2] at q; exact fun τ2 M2 r2 => for_sim hg hb hok ds S2 τ2 M2 r2 q
      | bk S2 => rw [e2] at q; exact q
      | rt d S2 => rw [e2] at q; exact q
      | ro d S2 => rw [e2] at q; exact q
      | ex c fs S2 => rw [e2] at q; exact q
      | un => rw [e2] at q; exact q
theorem sims_for {wi : DI} {it : FI} {g : DG} {gf : FG} (hi : SimI K wi it) (hg : SimG g gf) (hb : SimS K u fu) : SimS K (sFor wi g u) (nFor it gf fu) := fun ad M0 S τ M En r q => hi ad M0 S τ M _ _ r (q.out fun ds S1 M1 r1 q1 ok hok => for_sim hg hb hok ds S1 τ M1 r1 q1)
theorem sims_while {n : Nat} (hc : Sim K A FA) (hb : SimS K u fu) : SimS K (sWhile A u) (nWhile n FA fu) := fun ad M0 S τ M En r q => by
  refine ⟨fun m τ M => ∃ S, Rel ad M0 S τ M ∧ postS K ad M0 (whileF FA fu m S) En, ⟨n, S, r, q⟩, ?_⟩
  rintro m τ M ⟨S, r, q⟩
  cases m with
  | zero => exact q.elim
  | succ m =>
    refine hc ad M0 S τ M _ _ r (postS.out (K := K) (En := En) (show postS K ad M0 ((FA S).out _) En from q) fun c S1 M1 r1 q1 => ?_)
    cases c with
    | false => exact q1 τ M1 r1
    | true =>
      rw [if_pos rfl] at q1 ⊢
      refine hb ad M0 S1 τ M1 _ r1 ?_
      cases e2 : fu S1 with
      | nx S2 => rw [e2] at q1; exact fun τ2 M2 r2 => ⟨m, Nat.lt_succ_self m, S2, r2, q1⟩
      | ct S2 => rw [e2] at q1; exact fun τ2 M2 r2 => ⟨m, Nat.lt_succ_self m, S2, r2, q1⟩
      | bk S2 => rw [e2] at q1; exact q1
      | rt d S2 => rw [e2] at q1; exact q1
      | ro d S2 => rw [e2] at q1; exact q1
      | ex c fs S2 => rw [e2] at q1; exact q1
      | un => rw [e2] at q1; exact q1
/-- an own list is told as a fixed one from here on -/
def sFrz (i : Nat) (u : DS) : DS := fun En τ M => (∃ a xs, getV τ i = some (.ref a) ∧ M a = some (.lst xs) ∧ u En (setV τ i (some (.lst xs))) (del M a)) ∨ u En τ M
theorem sims_frz (i : Nat) (h : SimS K u fu) : SimS K (sFrz i u) (nFrz i fu) := fun ad M0 S τ M En r q => by
  unfold nFrz at q
  split at q
  · rename_i xs e
    obtain ⟨a, e1, hM, _⟩ := r.ow i none _ e
    exact .inl ⟨a, xs, e1, hM, h ad M0 _ _ _ En (r.frz e e1 (.lst xs)) q⟩
  · exact .inr (h ad M0 S τ M En r q)
  · exact q.elim
theorem monoS_frz {u : DS} (m : MonoS u) : MonoS (sFrz i u) := fun a b τ M h q => q.elim (fun ⟨p, xs, e1, e2, q⟩ => .inl ⟨p, xs, e1, e2, m a b _ _ h q⟩) fun q => .inr (m a b τ M h q)
theorem EnvR.frz {K : PySem.W.Frag} {H : Hp} {M : Mp} {τ : Sd} {σ : L2.St} {a : Addr} {xs : List D} (er : EnvR K H M τ σ) (ab : Abs K H M) (h : getV τ i = some (.ref a)) (hM : M a = some (.lst xs)) : EnvR K H (del M a) (setV τ i (some (.lst xs))) σ := by
  have er' : EnvR K H (del M a) τ σ := er.keep (Keep.sub Sub.of_del)
  refine ⟨by rw [setV_len]; exact er'.1, fun j d e => ?_⟩
  rw [setV_set] at e
  by_cases hj : i = j
  · subst hj
    obtain ⟨v, ev, dn⟩ := er.2 i _ (getV_get h)
    by_cases hl : i < τ.length
    · rw [List.getElem?_set_self hl] at e
      cases e
      exact ⟨v, ev, by
        simp only [Den] at dn
        subst dn
        exact Den.fix ab hM⟩
    · rw [List.getElem?_eq_none (by simpa using hl)] at e; cases e
  · rw [List.getElem?_set_ne hj] at e
    exact er'.2 j d e
theorem dss_frz {C : DC} {sts : List Stmt} (i : Nat) (h : DPSs C sts u) : DPSs C sts (sFrz i u) := ⟨monoS_frz h.mono, fun pins s σ H τ M D I er sr q => by
  rcases q with ⟨a, xs, e1, hM, q⟩ | q
  · have g : Go C H M H (del M a) := ⟨Keep.sub Sub.of_del, sr.abs.sub Sub.of_del, sr.tab⟩
    exact thn (h.go pins s σ H _ (del M a) D I (er.frz sr.abs e1 hM) (sr.go g) q) fun f s' z => z.go g
  · exact h.go pins s σ H τ M D I er sr q⟩
/-! raise, try -/
/-- what except asks of a class -/
def ExM (K : PySem.W.Frag) (c h : Str) (b : Bool) : Prop := PySem.W.exmOne K (cl K c) (cl K h) = some b
inductive SimH (K : PySem.W.Frag) : List (Value × DS) → List FH → Prop
  | nil : SimH K [] []
  | cons {x : Str} {y n : List Str} {u : DS} {f : FS} {l : List (Value × DS)} {r : List FH} (hy : ∀ c ∈ y, ExM K c x true) (hn : ∀ c ∈ n, ExM K c x false) (h : SimS K u f) (hr : SimH K l r) : SimH K ((cl K x, u) :: l) ((y, n, f) :: r)
theorem catch_sim {l : List (Value × DS)} {hs : List FH} (hh : SimH K l hs) {ad : Nat → Addr} {M0 : Mp} {En : DEnds} {c : Str} {fs : DFs} {S : Fs} {τ : Sd} {M : Mp} (r : Rel ad M0 S τ M) (q : postS K ad M0 (catchF c fs S hs) En) : catch_ K En l (cl K c) fs τ M := by
  induction hh with
  | nil => exact q τ M r
  | @cons x y n u f l r' hy hn h hr ih =>
    unfold catchF at q
    split at q
    · rename_i hc
      refine ⟨true, hy c hc, fun _ => h ad M0 S τ M { En with ex := fun _ _ _ _ => False } r ?_, fun z => nomatch z⟩
      cases e : f S with
      | nx S1 => rw [e] at q; exact q
      | rt d S1 => rw [e] at q; exact q
      | ro d S1 => rw [e] at q; exact q
      | bk S1 => rw [e] at q; exact q
      | ct S1 => rw [e] at q; exact q
      | ex c fs S1 => rw [e] at q; exact q.elim
      | un => rw [e] at q; exact q
    · split at q
      · rename_i hc
        exact ⟨false, hn c hc, (fun z => nomatch z), fun _ => ih q⟩
      · exact q.elim
theorem sims_try {l : List (Value × DS)} {hs : List FH} (h : SimS K u fu) (hh : SimH K l hs) : SimS K (sTry K u l) (nTry fu hs) := fun ad M0 S τ M En r q => by
  refine h ad M0 S τ M { En with ex := catch_ K En l } r ?_
  unfold nTry at q
  cases e : fu S with
  | nx S1 => rw [e] at q; exact q
  | rt d S1 => rw [e] at q; exact q
  | ro d S1 => rw [e] at q; exact q
  | bk S1 => rw [e] at q; exact q
  | ct S1 => rw [e] at q; exact q
  | ex c fs S1 => rw [e] at q; exact fun τ1 M1 r1 => catch_sim hh r1 q
  | un => rw [e] at q; exact q
/-! ### defs -/
/-- what a def's promise asks of the end -/
def endP (K : PySem.W.Frag) (ad : Nat → Addr) (M0 : Mp) (r : R D) (Q : DK) (E : DX) : Prop := match r with
  | .ok d S => ∀ M, Sub M0 M → (∀ k o, getS S k = .ow (some k) o → M (ad k) = some o) → Q d M
  | .ex c fs S => ∀ M, Sub M0 M → (∀ k o, getS S k = .ow (some k) o → M (ad k) = some o) → E (cl K c) fs M
  | .un => False
/-- .. that hands back a new list -/
def endO (K : PySem.W.Frag) (ad : Nat → Addr) (M0 : Mp) (r : R D) (Q : DK) (E : DX) : Prop := match r with
  | .ok (.lst xs) S => ∀ M p, M p = none → Sub M0 M → (∀ k o, getS S k = .ow (some k) o → M (ad k) = some o) → Q (.ref p) (put M p (.lst xs))
  | .ex c fs S => ∀ M, Sub M0 M → (∀ k o, getS S k = .ow (some k) o → M (ad k) = some o) → E (cl K c) fs M
  | _ => False
def fP (K : PySem.W.Frag) (n : Nat) (F : FF) : DSp := fun ds M Q E => ds.length = n ∧ ∃ vs ad M0, Rel ad M0 vs (ds.map some) M ∧ endP K ad M0 (F vs) Q E
def fPo (K : PySem.W.Frag) (n : Nat) (F : FF) : DSp := fun ds M Q E => ds.length = n ∧ ∃ vs ad M0, Rel ad M0 vs (ds.map some) M ∧ endO K ad M0 (F vs) Q E
theorem len_f {n : Nat} {F : FF} : ∀ ds M Q E, fP K n F ds M Q E → ds.length = n := fun _ _ _ _ h => h.1
theorem len_fo {n : Nat} {F : FF} : ∀ ds M Q E, fPo K n F ds M Q E → ds.length = n := fun _ _ _ _ h => h.1
theorem mono_f {n : Nat} {F : FF} : MonoP (fP K n F) := fun ds M Q Q' E E' h he ⟨hl, vs, ad, M0, r, q⟩ => ⟨hl, vs, ad, M0, r, by
  unfold endP at q ⊢
  split at q
  · exact fun M a b => h _ _ (q M a b)
  · exact fun M a b => he _ _ _ (q M a b)
  · exact q⟩
theorem mono_fo {n : Nat} {F : FF} : MonoP (fPo K n F) := fun ds M Q Q' E E' h he ⟨hl, vs, ad, M0, r, q⟩ => ⟨hl, vs, ad, M0, r, by
  unfold endO at q ⊢
  split at q
  · exact fun M p a b c => h _ _ (q M p a b c)
  · exact fun M a b => he _ _ _ (q M a b)
  · exact q⟩
theorem getS_app : ∀ (a b : Fs) (i : Nat), getS (a ++ b) i = if i < a.length then getS a i else getS b (i - a.length)
  | [], b, i => by simp
  | x :: r, b, 0 => by simp [getS]
  | x :: r, b, i + 1 => by
    rw [List.cons_append]
    show getS (r ++ b) i = _
    rw [getS_app r b i]
    simp only [List.length_cons, Nat.add_lt_add_iff_right, Nat.add_sub_add_right]
    rfl
theorem getS_rep (n i : Nat) : getS (List.replicate n .no) i = .no := by
  induction n generalizing i with
  | zero => rfl
  | succ n ih => cases i with
    | zero => rfl
    | succ i => exact ih i
theorem getV_app : ∀ (a b : Sd) (i : Nat), i < a.length → getV (a ++ b) i = getV a i
  | [], b, i, h => by simp at h
  | x :: r, b, 0, h => rfl
  | x :: r, b, i + 1, h => getV_app r b i (by simpa using h)
theorem Rel.start {ad : Nat → Addr} {M0 M : Mp} {vs : List SV} {ds : List D} {N : List Str} (r : Rel ad M0 vs (ds.map some) M) : Rel ad M0 (startS N.length vs) (startD N ds) M := by
  have hl : vs.length = ds.length := by have := r.len; simpa using this.symm
  have g : ∀ i x, getS (startS N.length vs) i = x → x ≠ .no → getS vs i = x ∧ getV (startD N ds) i = getV (ds.map some) i := fun i x e hx => by
    unfold startS at e
    rw [getS_app] at e
    split at e
    · rename_i hi
      refine ⟨e, ?_⟩
      unfold startD
      exact getV_app _ _ _ (by simpa [← hl] using hi)
    · rw [getS_rep] at e; exact absurd e.symm hx
  refine ⟨by simp [startS, startD, hl], fun i d e => ?_, fun i t o e => ?_, fun i o e => ?_, fun i j a h1 h2 e1 e2 => ?_, r.sub⟩
  · obtain ⟨a, b⟩ := g i _ e (fun z => nomatch z); rw [b]; exact r.va i d a
  · obtain ⟨a, b⟩ := g i _ e (fun z => nomatch z); rw [b]; exact r.ow i t o a
  · obtain ⟨a, b⟩ := g i _ e (fun z => nomatch z); rw [b]; exact r.vw i o a
  · obtain ⟨a1, b1⟩ := g i _ rfl (fun z => by rw [z] at h1; cases h1)
    obtain ⟨a2, b2⟩ := g j _ rfl (fun z => by rw [z] at h2; cases h2)
    rw [b1] at e1; rw [b2] at e2; rw [← a1] at h1; rw [← a2] at h2
    exact r.inj i j a h1 h2 e1 e2
theorem rd_f {N : List Str} {n : Nat} (h : SimS K u fu) : ∀ ds M Q E, fP K n (runF N.length fu) ds M Q E → u (endF Q E) (startD N ds) M := fun ds M Q E ⟨hl, vs, ad, M0, r, q⟩ => by
  refine h ad M0 _ _ M _ r.start ?_
  unfold runF at q
  have own : ∀ {S τ M}, Rel ad M0 S τ M → ∀ k o, getS S k = .ow (some k) o → M (ad k) = some o := fun r k o e => by
    obtain ⟨a, _, b, _, c, _⟩ := r.ow k _ o e
    rw [← c k rfl]; exact b
  cases e : fu (startS N.length vs) with
  | nx S => rw [e] at q; exact fun τ M r => ⟨M, Sub.refl, q M r.sub (own r)⟩
  | rt d S => rw [e] at q; exact fun τ M r => ⟨d, M, Cv.refl, q M r.sub (own r)⟩
  | ex c fs S => rw [e] at q; exact fun τ M r => ⟨M, Sub.refl, q M r.sub (own r)⟩
  | ro d S => rw [e] at q; exact q.elim
  | bk S => rw [e] at q; exact q.elim
  | ct S => rw [e] at q; exact q.elim
  | un => rw [e] at q; exact q.elim
theorem rd_fo {N : List Str} {n : Nat} (h : SimS K u fu) : ∀ ds M Q E, fPo K n (runO N.length fu) ds M Q E → u (endF Q E) (startD N ds) M := fun ds M Q E ⟨hl, vs, ad, M0, r, q⟩ => by
  refine h ad M0 _ _ M _ r.start ?_
  unfold runO at q
  have own : ∀ {S τ M}, Rel ad M0 S τ M → ∀ k o, getS S k = .ow (some k) o → M (ad k) = some o := fun r k o e => by
    obtain ⟨a, _, b, _, c, _⟩ := r.ow k _ o e
    rw [← c k rfl]; exact b
  cases e : fu (startS N.length vs) with
  | ro xs S => rw [e] at q; exact fun τ M p r hp => ⟨_, _, Cv.refl, q M p hp r.sub (own r)⟩
  | ex c fs S => rw [e] at q; exact fun τ M r => ⟨M, Sub.refl, q M r.sub (own r)⟩
  | rt d S => rw [e] at q; exact q.elim
  | nx S => rw [e] at q; exact q.elim
  | bk S => rw [e] at q; exact q.elim
  | ct S => rw [e] at q; exact q.elim
  | un => rw [e] at q; exact q.elim
/-! ### calls -/
theorem getS_va (ds : List D) (i : Nat) : getS (ds.map .va) i = match getV (ds.map some) i with
    | some d => .va d
    | none => .no := by
  induction ds generalizing i with
  | nil => rfl
  | cons x r ih => cases i with
    | zero => rfl
    | succ i => exact ih i
theorem rel_va {ad : Nat → Addr} {M : Mp} (ds : List D) : Rel ad M (ds.map .va) (ds.map some) M := by
  refine ⟨by simp, fun i d e => ?_, fun i t o e => ?_, fun i o e => ?_, fun i j a h1 h2 e1 e2 => ?_, Sub.refl⟩
  · rw [getS_va] at e; split at e <;> cases e; assumption
  · rw [getS_va] at e; split at e <;> cases e
  · rw [getS_va] at e; split at e <;> cases e
  · rw [getS_va] at h1; split at h1 <;> cases h1
theorem sim_call {n : Nat} {F : FF} (h : Sim K t f) (hn : ∀ S ds S1, f S = .ok ds S1 → ds.length = n) : Sim K (dCall (fP K n F) t) (fCall F f) := fun ad M0 S τ M Q E r q => by
  refine h ad M0 S τ M _ E r ?_
  unfold fCall at q
  cases e : f S with
  | ex c fs S1 => rw [e] at q; exact q
  | un => rw [e] at q; exact q
  | ok ds S1 =>
    rw [e] at q
    dsimp only [R.bind] at q
    intro M1 r1
    refine ⟨hn S ds S1 e, ds.map .va, fun _ => 0, M1, rel_va ds, ?_⟩
    cases e2 : F (ds.map .va) with
    | ok d S2 => rw [e2] at q; exact fun M2 s _ => q M2 (r1.mono s)
    | ex c fs S2 => rw [e2] at q; exact fun M2 s _ => q M2 (r1.mono s)
    | un => rw [e2] at q; exact q
theorem simo_call {n : Nat} {F : FF} (h : Sim K t f) (hn : ∀ S ds S1, f S = .ok ds S1 → ds.length = n) : SimO K (dCall (fPo K n F) t) (fCallO F f) := fun ad M0 S τ M Q E r q => by
  refine h ad M0 S τ M _ E r ?_
  unfold fCallO at q
  cases e : f S with
  | ex c fs S1 => rw [e] at q; exact q
  | un => rw [e] at q; exact q
  | ok ds S1 =>
    rw [e] at q
    dsimp only [R.bind] at q
    intro M1 r1
    refine ⟨hn S ds S1 e, ds.map .va, fun _ => 0, M1, rel_va ds, ?_⟩
    cases e2 : F (ds.map .va) with
    | ok d S2 =>
      rw [e2] at q
      cases d <;> first | exact q.elim | skip
      exact fun M2 p hp s _ => q M2 (r1.mono s) p hp
    | ex c fs S2 => rw [e2] at q; exact q.elim
    | un => rw [e2] at q; exact q
theorem rel_h {M : Mp} {a : Addr} {o : OD} (ds : List D) (h : M a = some o) (np : o ≠ .priv) : Rel (fun _ => a) (del M a) (.ow (some 0) o :: ds.map .va) (some (.ref a) :: ds.map some) M := by
  have no : ∀ j, getS (ds.map .va) j = .no ∨ ∃ d, getS (ds.map .va) j = .va d := fun j => by
    rw [getS_va]; split
    · exact .inr ⟨_, rfl⟩
    · exact .inl rfl
  refine ⟨by simp, fun i d e => ?_, fun i t u e => ?_, fun i u e => ?_, fun i j b h1 h2 e1 e2 => ?_, Sub.of_del⟩
  · cases i with
    | zero => cases e
    | succ i => exact (rel_va (ad := fun _ => 0) (M := M) ds).va i d e
  · cases i with
    | zero => cases e; exact ⟨a, rfl, h, del_same, fun _ _ => rfl, np⟩
    | succ i => rcases no i with z | ⟨d, z⟩ <;> (rw [show getS (.ow (some 0) o :: ds.map .va) (i + 1) = getS (ds.map .va) i from rfl, z] at e; cases e)
  · cases i with
    | zero => cases e
    | succ i => rcases no i with z | ⟨d, z⟩ <;> (rw [show getS (.ow (some 0) o :: ds.map .va) (i + 1) = getS (ds.map .va) i from rfl, z] at e; cases e)
  · cases i with
    | succ i => rcases no i with z | ⟨d, z⟩ <;> (rw [show getS (.ow (some 0) o :: ds.map .va) (i + 1) = getS (ds.map .va) i from rfl, z] at h1; cases h1)
    | zero => cases j with
      | zero => rfl
      | succ j => rcases no j with z | ⟨d, z⟩ <;> (rw [show getS (.ow (some 0) o :: ds.map .va) (j + 1) = getS (ds.map .va) j from rfl, z] at h2; cases h2)
theorem Rel.objS {ad : Nat → Addr} {M0 M : Mp} {S : Fs} {τ : Sd} (r : Rel ad M0 S τ M) {o : OD} (h : DL.objS S i = some o) : ∃ a, getV τ i = some (.ref a) ∧ M a = some o ∧ o ≠ .priv ∧ ∀ x S2 M2, backO S i x = some S2 → (∀ o', x = .ow (some 0) o' → M2 a = some o') → Sub (del M a) M2 → Rel ad M0 S2 τ M2 := by
  unfold DL.objS at h
  split at h <;> cases h
  rename_i t e
  obtain ⟨a, e1, hM, _, _, np⟩ := r.ow i t _ e
  refine ⟨a, e1, hM, np, fun x S2 M2 hb hx hs => ?_⟩
  unfold backO at hb
  split at hb
  · rename_i o'
    rw [e] at hb
    dsimp only at hb
    have fin : ∀ u, u ≠ .priv → u = o' → Rel ad M0 (setS S i (.ow t u)) τ M2 := fun u hu eu => (r.upd e e1 u hu).mono fun b w hb => by
      by_cases z : b = a
      · subst z; rw [put_same] at hb; cases hb; rw [eu]; exact hx _ rfl
      · rw [put_ne z] at hb; exact hs b w (by rw [del_ne z]; exact hb)
    cases o' with
    | priv => cases hb
    | lst xs => cases hb; exact fin _ (fun z => nomatch z) rfl
    | ins c fs => cases hb; exact fin _ (fun z => nomatch z) rfl
    | kst ks => cases hb; exact fin _ (fun z => nomatch z) rfl
    | rng lo hi => cases hb; exact fin _ (fun z => nomatch z) rfl
  · cases hb
theorem sim_callH {n : Nat} {F : FF} (h : Sim K t f) (hn : ∀ S ds S1, f S = .ok ds S1 → ds.length + 1 = n) : Sim K (dCall (fP K n F) (dCons (dVar i) t)) (fCallH F i f) := fun ad M0 S τ M Q E r q => by
  unfold fCallH at q
  obtain ⟨o0, eo0, q⟩ := q.opt
  obtain ⟨a, e1, _, _, _⟩ := r.objS eo0
  refine ok1_of e1 (h ad M0 S τ M _ E r ?_)
  cases e : f S with
  | ex c fs S1 => rw [e] at q; exact q
  | un => rw [e] at q; exact q
  | ok ds S1 =>
    rw [e] at q
    dsimp only [R.bind] at q
    intro M1 r1
    obtain ⟨o, eo, q⟩ := q.opt
    obtain ⟨b, e2, hM, np, back⟩ := r1.objS eo
    rw [e1] at e2; cases e2
    refine ⟨by simpa using hn S ds S1 e, _, fun _ => a, del M1 a, rel_h ds hM np, ?_⟩
    cases e2 : F (.ow (some 0) o :: ds.map .va) with
    | ok d S2 =>
      rw [e2] at q
      obtain ⟨S3, e3, q⟩ := q.opt
      exact fun M2 s hk => q M2 (back _ _ _ e3 (fun o' ho => hk 0 o' ho) s)
    | ex c fs S2 =>
      rw [e2] at q
      obtain ⟨S3, e3, q⟩ := q.opt
      exact fun M2 s hk => q M2 (back _ _ _ e3 (fun o' ho => hk 0 o' ho) s)
    | un => rw [e2] at q; exact q
/-! the number of arguments -/
theorem na_nil : ∀ S ds S1, aNil S = .ok ds S1 → ds.length = 0 := fun S ds S1 h => by cases h; rfl
theorem na_cons {n : Nat} {g : FAs} (h : ∀ S ds S1, g S = .ok ds S1 → ds.length = n) : ∀ S ds S1, aCons fa g S = .ok ds S1 → ds.length = n + 1 := fun S ds S1 e => by
  unfold aCons at e
  cases e1 : fa S with
  | ok d S2 =>
    rw [e1] at e
    dsimp only [R.bind] at e
    cases e2 : g S2 with
    | ok ds' S3 => rw [e2] at e; cases e; simp [h _ _ _ e2]
    | ex c fs S3 => rw [e2] at e; cases e
    | un => rw [e2] at e; cases e
  | ex c fs S2 => rw [e1] at e; cases e
  | un => rw [e1] at e; cases e
theorem na_h {n : Nat} (h : ∀ S ds S1, f S = .ok ds S1 → ds.length = n) : ∀ S ds S1, f S = .ok ds S1 → ds.length + 1 = n + 1 := fun S ds S1 e => by rw [h S ds S1 e]
end
end DL

/-! More words; lambdas; defs by what they compute. -/
namespace DL
open PySem PySem.Spec PyProof.Rows L2
def wFuel : Nat := 1000000000000
section
variable {C : DC} {e a b : Expr} {es : List Expr} {pos : Pos} {ta tb te : DE} {t : DA}
/-! ### {} -/
def dEmp : DE := fun _ M Q _ => Q (.dk [] []) M
def fEmp : FE := fun S => .ok (.dk [] []) S
theorem mono_emp : MonoE dEmp := fun τ M Q Q' E E' h _ q => h _ _ q
theorem de_emp : DPE C (.Dict [] [] pos) dEmp := .of mono_emp pe_dnewK fun σ H Q ⟨τ, M, er, sr, q⟩ p hp => by
  have g : Go C H M (upd H p (.dK [])) M := Go.new sr hp fun _ z => nomatch z
  refine q _ _ g ?_
  simp only [Den]
  exact ⟨p, [], rfl, ⟨⟨sr.abs.free hp, upd_same⟩, rfl⟩, DenL.nil⟩
/-! ### own lists by operations -/
/-- an operation's new list told as one's own -/
def NwO (C : DC) (F : Value → Value → Sem Value) (f : O2) : Prop :=
  ∀ (pins : List (Addr × Obj)) (s : Shared) (σ : L2.St) (H : Hp) (M : Mp) (x y : V) (u v : Value) (d e : D) (xs : List D), Inv C.X pins σ H s → SR C H M → RelV x u → RelV y v → Den C.X.K H M d x → Den C.X.K H M e y → f d e M = some (.lst xs) →
    wpAny (model C.X.prog C.X.w) C.X.A (F u v) (EPD C pins σ H M fun z' M' => ∃ p, M p = none ∧ z' = .ref p ∧ M' = put M p (.lst xs)) C.X.xe s
def dOpM (f : O2) (ta tb : DE) : DE := fun τ M Q E => ta τ M (fun x M1 => tb τ M1 (fun y M2 => ∃ xs, f x y M2 = some (.lst xs) ∧ ∀ p, M2 p = none → Q (.ref p) (put M2 p (.lst xs))) E) E
theorem mono_opM {f : O2} (m : MonoE ta) (n : MonoE tb) : MonoE (dOpM f ta tb) := fun τ M Q Q' E E' h he q =>
  m τ M _ _ _ _ (fun x M1 => n τ M1 _ _ _ _ (fun y M2 ⟨xs, e, k⟩ => ⟨xs, e, fun p hp => h _ _ (k p hp)⟩) he) he q
theorem de_opM {op : Operator} {f : O2} (ho : NwO C (binaryOp op) f) (ha : DPE C a ta) (hb : DPE C b tb) : DPE C (.BinOp a op b pos) (dOpM f ta tb) :=
  ⟨mono_opM ha.mono hb.mono, fun pins s σ H τ M Q I er sr q => wpAny_BinOp (by
  refine thn (ha.go pins s σ H τ M _ I er sr q) fun v s1 ⟨x, H1, d, M1, I1, r1, g1, dn1, q1⟩ => ?_
  refine thn (hb.go pins s1 σ H1 τ M1 _ I1 (er.keep g1.keep) (sr.go g1) q1) fun u s2 ⟨y, H2, e, M2, I2, r2, g2, dn2, xs, ez, q2⟩ => ?_
  refine thn (ho pins s2 σ H2 M2 x y v u d e xs I2 ((sr.go g1).go g2) r1 r2 (Den.keep g2.keep d dn1) dn2 ez) fun w s3 ⟨wv, H3, z', M3, I3, r3, g3, dn3, p, hp, e3, e4⟩ => ?_
  subst e3; subst e4
  exact ⟨wv, H3, _, _, I3, r3, (g1.trans g2).trans g3, dn3, q2 p hp⟩)⟩
theorem fMul_lst {d : D} {k : Int} {M : Mp} {xs : List D} (h : fMul d (.int k) M = some (.lst xs)) : ∃ ys, deref M d = .lst ys ∧ -1000000 ≤ k ∧ k ≤ 1000000 ∧ ys.length * k.toNat ≤ sizeLine ∧ xs = (List.replicate k.toNat ys).flatten := by
  cases d <;> simp only [fMul] at h
  case int => split at h <;> cases h
  case tup =>
    split at h
    · cases h
    · split at h <;> cases h
  all_goals
    split at h
    · rename_i ys hy
      split at h <;> cases h
      rename_i c
      exact ⟨ys, hy, c.1, c.2.1, c.2.2, rfl⟩
    · cases h
theorem nw_mul : NwO C (binaryOp .Mult) fMul := fun pins s σ H M x y u v d e xs I sr r1 r2 d1 d2 ez => by
  have he : ∃ k, e = .int k := by
    cases e <;> first | exact ⟨_, rfl⟩ | (cases d <;> simp [fMul] at ez)
  obtain ⟨k, rfl⟩ := he
  obtain ⟨ys, hy, k1, k2, hz, rfl⟩ := fMul_lst ez
  simp only [Den] at d2
  subst d2
  obtain ⟨q, vs, rfl, hq, l⟩ := deref_lst sr.abs hy d1
  have hl := l.length
  refine thn (op_rep pins s σ H _ _ u v (fun w H' => ∃ p, H p = none ∧ w = .ref p ∧ H' = upd H p (.lst (List.replicate k.toNat vs).flatten)) I r1 r2 ⟨q, k, vs, rfl, rfl, hq, by omega, by omega, by rw [hl]; exact hz, fun p hp => ⟨p, hp, rfl, rfl⟩⟩) fun w s' ⟨wv, H', I', rw, p, hp, e1, e2⟩ => ?_
  subst e1; subst e2
  obtain ⟨g, dn⟩ := new_lstM sr hp (l.rep k.toNat)
  exact ⟨_, _, _, _, I', rw, g, dn, p, sr.abs.free hp, rfl, rfl⟩
theorem fAdd_lst {d e : D} {M : Mp} {xs : List D} (h : fAdd d e M = some (.lst xs)) : ∃ ys zs, deref M d = .lst ys ∧ deref M e = .lst zs ∧ ys.length + zs.length ≤ sizeLine ∧ xs = ys ++ zs := by
  cases d <;> simp only [fAdd] at h
  case int => split at h <;> cases h
  case str => split at h <;> try cases h
              split at h <;> cases h
  case tup => split at h <;> try cases h
              split at h <;> cases h
  all_goals
    split at h
    · rename_i ys zs hy hz'
      split at h <;> cases h
      rename_i c
      exact ⟨ys, zs, hy, hz', c, rfl⟩
    · cases h
theorem nw_add : NwO C (binaryOp .Add) fAdd := fun pins s σ H M x y u v d e xs I sr r1 r2 d1 d2 ez => by
  obtain ⟨ys, zs, hy, hz, hc, rfl⟩ := fAdd_lst ez
  obtain ⟨q, vs, rfl, hq, l⟩ := deref_lst sr.abs hy d1
  obtain ⟨q2, ws, rfl, hq2, l2⟩ := deref_lst sr.abs hz d2
  have hl := l.length
  have hl2 := l2.length
  refine thn (op_cat pins s σ H _ _ u v (fun w H' => ∃ p, H p = none ∧ w = .ref p ∧ H' = upd H p (.lst (vs ++ ws))) I r1 r2 ⟨q, q2, vs, ws, rfl, rfl, hq, hq2, by omega, fun p hp => ⟨p, hp, rfl, rfl⟩⟩) fun w s' ⟨wv, H', I', rw, p, hp, e1, e2⟩ => ?_
  subst e1; subst e2
  obtain ⟨g, dn⟩ := new_lstM sr hp (l.append l2)
  exact ⟨_, _, _, _, I', rw, g, dn, p, sr.abs.free hp, rfl, rfl⟩
theorem de_mulM (ha : DPE C a ta) (hb : DPE C b tb) : DPE C (.BinOp a .Mult b pos) (dOpM fMul ta tb) := de_opM nw_mul ha hb
theorem de_addM (ha : DPE C a ta) (hb : DPE C b tb) : DPE C (.BinOp a .Add b pos) (dOpM fAdd ta tb) := de_opM nw_add ha hb
/-- list(xs), to be changed -/
def dListM (t : DA) : DE := fun τ M Q E => t τ M (fun ds M1 => match ds with
  | [x] => ok1 (items M1 x) fun xs => ∀ p, M1 p = none → Q (.ref p) (put M1 p (.lst xs))
  | _ => False) E
theorem mono_listM (m : MonoA t) : MonoE (dListM t) := fun τ M Q Q' E E' h he q => m τ M _ _ _ _ (fun ds M1 z => by
  revert z
  split
  · exact ok1_mono fun xs k p hp => h _ _ (k p hp)
  · exact id) he q
theorem de_listM {p : Pos} (hg : Gl C.X "list") (hm : C.X.mg "list" = none) (ha : DPA C (e :: es) t) (he : starEach (e :: es) C.X.env = (false, eval e C.X.env) :: starEach es C.X.env := by rfl) (hpl : (backTo pos (starEach es C.X.env)).any (·.1) = false := by rfl) :
    DPE C (.Call (.Name "list" p) (e :: es) [] pos) (dListM t) := ⟨mono_listM ha.mono, fun pins s σ H τ M Q I er sr q => by
  refine wpAny_Call_Name_kw (ld_blt I hg hm bb_list ?_ (by decide) (by decide))
  refine PyProof.Rows.callWith_type1 (thn (ha.go pos pins s σ H τ M _ I er sr q) fun us s1 ⟨vs, H1, ds, M1, I1, r, g, l, q1⟩ => ?_) he hpl
  revert q1 l
  split
  · rename_i x
    intro l q1
    obtain ⟨xs, ex, q1⟩ := ok1_ex q1
    obtain ⟨v, rfl, dn⟩ := l.one
    have sr1 := sr.go g
    obtain ⟨q', vs, rfl, l', hl, hz, h⟩ := seq_v I1 sr1 dn ex
    refine thn (call_list_of pins s1 σ H1 _ us (fun w H' => ∃ p, H1 p = none ∧ w = .ref p ∧ H' = upd H1 p (.lst vs)) I1 r ⟨q', vs, rfl, h.elim (fun h => .inr h.1) (fun h => .inl h.1), fun p hp => ⟨p, hp, rfl, rfl⟩⟩) fun w s' ⟨wv, H', I', rw, p, hp, e1, e2⟩ => ?_
    subst e1; subst e2
    obtain ⟨g2, dn2⟩ := new_lstM sr1 hp l'
    exact ⟨_, _, _, _, I', rw, g.trans g2, dn2, q1 p (sr1.abs.free hp)⟩
  · exact fun _ q => q.elim⟩
end
def fOpO (f : O2) (a b : FV) : FI := fun S => (a S).bind fun v S1 => (b S1).bind fun w S2 => R.opt (look S2 v) fun x => R.opt (look S2 w) fun y => R.opt (f x y Mn) fun d => R.of (lstD d) S2
def fListO (a : FVs) : FI := fun S => (a S).bind fun vs S1 => R.opt (looks S1 vs) fun ds => R.opt (one1 ds) fun d => R.of (items Mn d) S1
def rgBD (x y : D) : Option (Int × Int) := match x, y with
  | .int i, .int j => if -4000000000000000000 ≤ i ∧ i ≤ 4000000000000000000 ∧ -4000000000000000000 ≤ j ∧ j ≤ 4000000000000000000 ∧ j - i ≤ 16777216 then some (i, j) else none
  | _, _ => none
def fRgO (a b : FE) : FI := fun S => (a S).bind fun x S1 => (b S1).bind fun y S2 => R.opt (rgBD x y) fun p => .ok (rangeD p.1 (p.2 - p.1).toNat) S2
def fRgL (a b : FE) : FE := fun S => (fRgO a b S).bind fun xs S1 => .ok (.lst xs) S1
def fRgT (a b : FE) : FE := fun S => (fRgO a b S).bind fun xs S1 => .ok (.tup xs) S1
section
variable {K : PySem.W.Frag} {ta tb te : DE} {fa fb fe : FE} {va vb : FV} {vs : FVs} {t : DA}
theorem sim_emp : Sim K dEmp fEmp := fun ad M0 S τ M Q E r q => q M r
theorem simo_op {o : O2} (ho : OpV o) (h : SimV K ta va) (h2 : SimV K tb vb) : SimO K (dOpM o ta tb) (fOpO o va vb) := fun ad M0 S τ M Q E r q =>
  h ad M0 S τ M _ E r (q.bind fun v S1 M1 r1 q1 d hd => h2 ad M0 S1 τ M1 _ E r1 (q1.bind fun w S2 M2 r2 q2 e he => by
    obtain ⟨x, ex, q2⟩ := q2.opt
    obtain ⟨y, ey, q2⟩ := q2.opt
    obtain ⟨z, ez, q2⟩ := q2.opt
    obtain ⟨xs, exs, q2⟩ := q2.of
    rw [lstD_some exs] at ez
    exact ⟨xs, ho M2 d x e y _ (r2.look hd ex) (r2.look he ey) ez, q2 M2 r2⟩))
theorem simo_list (h : SimVs K t vs) : SimO K (dListM t) (fListO vs) := fun ad M0 S τ M Q E r q =>
  h ad M0 S τ M _ E r (q.bind fun ws S1 M1 r1 q1 es hes => by
    obtain ⟨ds, eds, q1⟩ := q1.opt
    obtain ⟨d, ed, q1⟩ := q1.opt
    obtain ⟨xs, exs, q1⟩ := q1.of
    obtain ⟨x, rfl, hx⟩ := looks_one (τ := τ) (r1.looks hes eds) ed
    exact ok1_of (items_vw hx exs) (q1 M1 r1))
theorem rgTo_bd {x y : D} {p : Int × Int} (h : rgBD x y = some p) {k : Int → Int → Prop} (q : k p.1 p.2) : rgTo x y k := by
  unfold rgBD at h
  split at h
  · split at h <;> cases h
    rename_i c
    exact ⟨c, q⟩
  · cases h
theorem simo_rg (h : Sim K ta fa) (h2 : Sim K tb fb) : SimO K (dRgM ta tb) (fRgO fa fb) := fun ad M0 S τ M Q E r q =>
  h ad M0 S τ M _ E r (q.bind fun x S1 M1 r1 q1 => h2 ad M0 S1 τ M1 _ E r1 (q1.bind fun y S2 M2 r2 q2 => by
    obtain ⟨p, ep, q2⟩ := q2.opt
    exact rgTo_bd ep (k := fun i j => ∀ q, M2 q = none → Q (.ref q) (put M2 q (.lst (rangeD i (j - i).toNat)))) (q2 M2 r2)))
theorem sim_rgL (h : Sim K ta fa) (h2 : Sim K tb fb) : Sim K (dRgL ta tb) (fRgL fa fb) := fun ad M0 S τ M Q E r q =>
  h ad M0 S τ M _ E r (post.bind (k := fun x S1 => (fb S1).bind fun y S2 => R.opt (rgBD x y) fun p => .ok (.lst (rangeD p.1 (p.2 - p.1).toNat)) S2) (Q := Q) (by
    have e : fRgL fa fb S = (fa S).bind fun x S1 => (fb S1).bind fun y S2 => R.opt (rgBD x y) fun p => .ok (.lst (rangeD p.1 (p.2 - p.1).toNat)) S2 := by
      unfold fRgL fRgO
      cases fa S with
      | ok x S1 =>
        simp only [R.bind_ok]
        cases fb S1 with
        | ok y S2 => simp only [R.bind_ok]; cases rgBD x y <;> rfl
        | ex => rfl
        | un => rfl
      | ex => rfl
      | un => rfl
    rw [← e]; exact q) fun x S1 M1 r1 q1 => h2 ad M0 S1 τ M1 _ E r1 (q1.bind fun y S2 M2 r2 q2 => by
    obtain ⟨p, ep, q2⟩ := q2.opt
    exact rgTo_bd ep (k := fun i j => Q (.lst (rangeD i (j - i).toNat)) M2) (q2 M2 r2)))
theorem sim_rgT (h : Sim K ta fa) (h2 : Sim K tb fb) : Sim K (dRgT ta tb) (fRgT fa fb) := fun ad M0 S τ M Q E r q =>
  h ad M0 S τ M _ E r (post.bind (k := fun x S1 => (fb S1).bind fun y S2 => R.opt (rgBD x y) fun p => .ok (.tup (rangeD p.1 (p.2 - p.1).toNat)) S2) (Q := Q) (by
    have e : fRgT fa fb S = (fa S).bind fun x S1 => (fb S1).bind fun y S2 => R.opt (rgBD x y) fun p => .ok (.tup (rangeD p.1 (p.2 - p.1).toNat)) S2 := by
      unfold fRgT fRgO
      cases fa S with
      | ok x S1 =>
        simp only [R.bind_ok]
        cases fb S1 with
        | ok y S2 => simp only [R.bind_ok]; cases rgBD x y <;> rfl
        | ex => rfl
        | un => rfl
      | ex => rfl
      | un => rfl
    rw [← e]; exact q) fun x S1 M1 r1 q1 => h2 ad M0 S1 τ M1 _ E r1 (q1.bind fun y S2 M2 r2 q2 => by
    obtain ⟨p, ep, q2⟩ := q2.opt
    exact rgTo_bd ep (k := fun i j => Q (.tup (rangeD i (j - i).toNat)) M2) (q2 M2 r2)))
/-! ### xs[::-1] of a list -/
def fRevL (a : FV) : FE := fun S => (a S).bind fun v S1 => R.opt (look S1 v) fun d => R.opt (itemsL Mn d) fun xs => .ok (.lst xs.reverse) S1
theorem sim_revL (h : SimV K ta va) : Sim K (dRevL ta) (fRevL va) := fun ad M0 S τ M Q E r q =>
  h ad M0 S τ M _ E r (q.bind fun v S1 M1 r1 q1 d hd => by
    obtain ⟨x, ex, q1⟩ := q1.opt
    obtain ⟨xs, exs, q1⟩ := q1.opt
    exact ok1_of (itemsL_vw (r1.look hd ex) exs) (q1 M1 r1))
/-! ### a lambda handed to a def that tells a word -/
def lamP (K : PySem.W.Frag) (wo : D → Option D) (wx : Str → DFs → Option D) : LamP := fun tld M Q => ∃ Q0 : DK, (∀ d M', Q0 d M' → Q d M') ∧ tld M (fun d M' => ok1 (wo d) fun w => Q0 w M') (fun c fs M' => ∃ x, c = cl K x ∧ ok1 (wx x fs) fun w => Q0 w M')
theorem monoL_lamP {wo : D → Option D} {wx : Str → DFs → Option D} : MonoL (lamP K wo wx) := fun tl M Q Q' h ⟨Q0, a, b⟩ => ⟨Q0, fun d M' z => h d M' (a d M' z), b⟩
def fLam (wo : D → Option D) (wx : Str → DFs → Option D) (f : FE) : FE := fun S => match f S with
  | .ok d S1 => R.of (wo d) S1
  | .ex c fs S1 => R.of (wx c fs) S1
  | .un => .un
theorem sim_lam {wo : D → Option D} {wx : Str → DFs → Option D} (h : Sim K te fe) : Sim K (dLam (lamP K wo wx) te) (fLam wo wx fe) := fun ad M0 S τ M Q E r q => by
  refine ⟨Q, fun _ _ z => z, h ad M0 S τ M _ _ r ?_⟩
  unfold fLam at q
  cases e : fe S with
  | un => rw [e] at q; exact q
  | ok d S1 =>
    rw [e] at q
    obtain ⟨w, ew, q⟩ := q.of
    exact fun M1 r1 => ok1_of ew (q M1 r1)
  | ex c fs S1 =>
    rw [e] at q
    obtain ⟨w, ew, q⟩ := q.of
    exact fun M1 r1 => ⟨c, rfl, ok1_of ew (q M1 r1)⟩
/-- the clauses of such a def: a class, those that it takes, those that it lets pass, the word -/
abbrev WH := Str × List Str × List Str × Str
def wordX : List WH → Str → Option D
  | [], _ => none
  | (_, y, n, w) :: r, c => if c ∈ y then some (.str w) else if c ∈ n then wordX r c else none
def WHok (K : PySem.W.Frag) (hs : List WH) : Prop := ∀ h ∈ hs, (∀ c ∈ h.2.1, ExM K c h.1 true) ∧ ∀ c ∈ h.2.2.1, ExM K c h.1 false
theorem word_rd {f : Addr} {tld : Tl} {M : Mp} {Q : DK} {w0 : Str} {hs : List WH} (mt : MonoTl tld) (hx : WHok K hs) (h : lamP K (fun _ => some (.str w0)) (fun c _ => wordX hs c) tld M Q) :
    sSeq (sAsg (dC (.str w0)) (gVar 1)) (sSeq (sTry K (sDrop (dAct f tld)) (hs.map fun h => (cl K h.1, sAsg (dC (.str h.2.2.2)) (gVar 1)))) (sRet (dVar 1))) (endG Q) [some (.ref f), none] M := by
  obtain ⟨Q0, hq, ht⟩ := h
  refine ⟨rfl, mt M _ _ _ _ (fun d M' z => hq _ _ z) (fun c fs M' ⟨x, ex, z⟩ => ?_) ht⟩
  subst ex
  have go : ∀ hs : List WH, WHok K hs → ok1 (wordX hs x) (fun w => Q0 w M') → ∀ En : DEnds, (∀ w M', Q0 w M' → En.nx [some (.ref f), some w] M') → catch_ K En (hs.map fun h => (cl K h.1, sAsg (dC (.str h.2.2.2)) (gVar 1))) (cl K x) fs [some (.ref f), some (.str w0)] M' := by
    intro hs
    induction hs with
    | nil => intro _ z; exact z.elim
    | cons h r ih =>
      intro hx z En hE
      obtain ⟨c, y, n, w⟩ := h
      obtain ⟨h1, h2⟩ := hx _ List.mem_cons_self
      simp only [wordX] at z
      split at z
      · rename_i hc
        exact ⟨true, h1 x hc, fun _ => hE _ _ z, fun z => nomatch z⟩
      · split at z
        · rename_i hc
          exact ⟨false, h2 x hc, (fun z => nomatch z), fun _ => ih (fun h hh => hx h (List.mem_cons_of_mem _ hh)) z En hE⟩
        · exact z.elim
  exact go hs hx z _ fun w M' z => hq _ _ z
end
/-! ### lambdas: the tables -/
structure LamAt (K : PySem.W.Frag) (mg : Str → Option Value) (base : Heap) (T : List (Addr × Str)) (x : Str) : Prop where
  tb : LamX.TabB base mg (He.cT K (x, none)).1 (He.cT K (x, none)).2
  mem : ((He.cT K (x, none)).2, x ++ ".<locals>." ++ "<lambda>") ∈ T
  un : ∀ p ∈ T, p.1 = (He.cT K (x, none)).2 → p.2 = x ++ ".<locals>." ++ "<lambda>"
def lamTab (K : PySem.W.Frag) (tf : List He.Defn) : List (Addr × Str) := tf.map fun p => ((He.cT K p).2, p.1 ++ ".<locals>." ++ "<lambda>")
def lamEx (tf : List He.Defn) (K : PySem.W.Frag) : Bool := tf.all fun p => tf.all fun q => !((He.cT K p).2 == (He.cT K q).2) || p == q
theorem lamAt_of {K : PySem.W.Frag} {mg : Str → Option Value} {base : Heap} {tf : List He.Defn} {x : Str} (hx : (x, none) ∈ tf) (ex : lamEx tf K = true) (tb : ∀ p ∈ tf.map (He.cT K), LamX.TabB base mg p.1 p.2) : LamAt K mg base (lamTab K tf) x := by
  refine ⟨tb _ (List.mem_map.mpr ⟨_, hx, rfl⟩), List.mem_map.mpr ⟨_, hx, rfl⟩, fun p hp e => ?_⟩
  obtain ⟨q, hq, rfl⟩ := List.mem_map.mp hp
  have := List.all_eq_true.mp (List.all_eq_true.mp ex q hq) _ hx
  simp only [Bool.or_eq_true, Bool.not_eq_true', beq_eq_false_iff_ne, beq_iff_eq, ne_eq] at this
  rcases this with h | h
  · exact absurd e h
  · rw [h]
section
variable {P : Program} {w : World} {K : PySem.W.Frag} {mg : Str → Option Value} {base : Heap} {T : List (Addr × Str)}
theorem code_of {cdv : Value} {f : Addr} {x : Str} {oc : Value} {od : Option Addr} {osl : Array (Option Value)} {fd : FuncData} (hf : f = He.ga K x) (lk : K.lookup f = some ⟨oc, od, .func fd, osl⟩) (hc : fd.code = cdv) (h : PySem.W.codeIn K cdv x = true) : cdv = .ref (He.codeOf K (x, none)) := by
  cases cdv <;> try (simp [PySem.W.codeIn] at h; done)
  rename_i c
  have := He.codeOf_eq (p := (x, none)) (by rw [← lk, hf]; rfl) hc
  rw [this]
/-- a def that makes lambdas -/
theorem fnxL_of {gb : Bool} {x : Str} {st : Stmt} {N ps : List Str} {k : Nat} {sp : DSp} {t : DS} (hga : mg x = some (.ref (He.ga K x))) (A : DefAt K mg x st) (S : FnScope N ps (defScope st)) (hb : BindN x st ps) (len : ∀ ds M Q E, sp ds M Q E → ds.length = ps.length) (mono : MonoP sp)
    (hbody : ∀ (f : Addr) (cdv : Value) (A : Around) (outer : List Env) (s : Shared) (H : Hp) (M : Mp) (E : DX) (hr : Room k (A.deeper (envOfC x (defScope st) s.heap.objs.size f cdv))) (hg : gb = true → A.guards = some []) (hcd : cdv = .ref (He.codeOf K (x, none))),
      DPSs (ctxOf P w K mg base T gb k N x (defScope st) f cdv A outer s H M E hr hg S.nd) (defBody st) t)
    (hsp : ∀ (ds : List D) (M : Mp) (Q : DK) (E : DX), sp ds M Q E → t (endF Q E) (startD N ds) M) : FnX P w K mg base T gb (k + 1) x ps sp := by
  obtain ⟨f, fd, F, e⟩ := A
  refine ⟨f, fd, ?_, e, F.kp, F.binds hb⟩
  have hf : f = He.ga K x := by rw [e] at hga; cases hga; rfl
  obtain ⟨oc, od, kV, doc, pm, an, cdv, ct, osl, rfl, lk, hcd⟩ := F.ex
  refine ⟨len, mono, fun A outer s H M args us vs ds Q E hr hg e0 hb r l ab tb q => ?_⟩
  refine LamX.run_ofS (N := N) lk hcd S hr e0 hb r (by rw [l.length]; exact len _ _ _ _ q) fun hr' => ?_
  have hd := hbody f cdv A outer s H M E hr' hg (code_of hf lk rfl hcd)
  refine ⟨_, hd.pss, startD N ds, M, EnvR.start l, ⟨Keep.refl, ab, tb, trivial⟩, ?_⟩
  refine hd.mono (endF Q E) _ _ _ ⟨fun τ' M' ⟨N', sb, q⟩ σ' H' er g => ?_, fun d M' ⟨d', N', ⟨sb, cv⟩, q⟩ v H' g dn => ?_, fun _ _ z => z.elim, fun _ _ z => z.elim, fun _ _ _ _ z => z⟩ (hsp ds M Q E q)
  · exact ⟨.non, N', ⟨g.keep.trans (Keep.sub sb), g.abs.sub sb, g.tab⟩, by simp only [Den], q⟩
  · exact ⟨d', N', ⟨g.keep.trans (Keep.sub sb), g.abs.sub sb, g.tab⟩, cv K H' v g.abs dn, q⟩
end
section
variable {C : DC} {x a xq : Str} {st : Stmt} {Ng : List Str} {k : Nat} {params : Arguments} {body : Expr} {scope : Scope} {tb : DE} {TT : LamP} {p lpos pos : Pos}
theorem de_lamw (LB : LamAt C.X.K C.X.mg C.X.base C.T xq) (hcode : C.X.env.code = .ref (He.codeOf C.X.K (xq, none))) (hr : Room (k + 2) C.X.A) (Z : DefAt C.X.K C.X.mg x st) (hb : BindN x st [a]) (Sg : FnScope Ng [a] (defScope st)) (hva : Vis (defScope st) a) (mT : MonoL TT)
    (hG : ∀ g cdv q, GivesS C.X Ng x (defScope st) g cdv (defBody st) a q (ttH C.X.K C.T TT))
    (hbody : ∀ (A : Around) (outer : List Env) (s : Shared) (H : Hp) (E : XK) (f c' : Addr) (hr : Room k (A.deeper (LamX.lamEnv C.X scope s.heap.objs.size f c'))) (H1 : Hp) (M : Mp) (Wd : DX) (hE : ∀ cls od H', eH C.X.K C.T H1 M Wd cls od H' → E cls od H'), DPE (lamC C A outer s H E scope f c' k hr H1 M Wd hE) body tb)
    (hg : Gl C.X x := by rfl) (hq : C.X.env.qual ++ "<lambda>" = xq ++ ".<locals>." ++ "<lambda>" := by rfl) (L : LamX.lamSB C.X.env.scope scope = true := by kernel_rfl) (hdef : defaultsOf params C.X.env = ([], []) := by rfl) (hNg : Ng[0]? = some a := by rfl)
    (hbind : ∀ (q : Str) (cl : List (Str × Addr)) (pm cv ctv : Value), bindArgs (PySem.W.kla_fn "<lambda>" q params body scope cl pm cv ctv) ⟨[], []⟩ = pure [] := by intro _ _ _ _ _; rfl)
    (hdb : (x == ("__debug__" : Str)) = false := by decide) (hd : (a == ("__debug__" : Str)) = false := by decide) (hcd : (a == ("__classdict__" : Str)) = false := by decide) :
    DPE C (.Call (.Name x p) [.Lambda params body scope lpos] [] pos) (dLam TT tb) := by
  obtain ⟨f, fd, F, e⟩ := Z
  have bd := F.binds hb
  have kp := F.kp
  obtain ⟨oc, od, kV, doc, pm, an, cdv, ct, osl, rfl, lk, hcc⟩ := F.ex
  exact de_lamcall hg e kp lk hcc bd Sg hNg hva (hG f cdv _) mT LB.tb hcode (by rw [hq]; exact LB.mem) (by rw [hq]; exact LB.un) hr (LamX.lamS_by L) hdef hbind hbody hdb hd hcd
theorem names_of {X : Cx} {x : Str} (Z : ExcAt X.K X.mg x) (hg : Gl X x := by rfl) (hd : (x == ("__debug__" : Str)) = false := by decide) : Names X x (cl X.K x) := ⟨hg, hd, .inl Z.mgC⟩
end
end DL

/-! The end: a law by what its text computes. -/
namespace DL
open PySem PySem.Spec PyProof.Rows L2
theorem WHok.nil {K : PySem.W.Frag} : WHok K [] := fun _ h => nomatch h
theorem WHok.cons {K : PySem.W.Frag} {x w : Str} {y n : List Str} {r : List WH} (hy : ∀ c ∈ y, ExM K c x true) (hn : ∀ c ∈ n, ExM K c x false) (hr : WHok K r) : WHok K ((x, y, n, w) :: r) := fun h hh => by
  rcases List.mem_cons.mp hh with rfl | hh
  · exact ⟨hy, hn⟩
  · exact hr h hh
theorem em0 {K : PySem.W.Frag} {x : Str} {b : Bool} : ∀ c ∈ ([] : List Str), ExM K c x b := fun _ h => nomatch h
theorem em1 {K : PySem.W.Frag} {x c : Str} {b : Bool} {r : List Str} (h : ExM K c x b) (hr : ∀ c ∈ r, ExM K c x b) : ∀ d ∈ c :: r, ExM K d x b := fun d hd => by
  rcases List.mem_cons.mp hd with rfl | hd
  · exact h
  · exact hr d hd
theorem fnx_un {P : Program} {w : World} {K : PySem.W.Frag} {mg : Str → Option Value} {base : Heap} {T : List (Addr × Str)} {st : Stmt} {x : Str} {ps : List Str} {n : Nat} (A : DefAt K mg x st) (hb : BindN x st ps) : FnX P w K mg base T false 0 x ps (fP K n fun _ => .un) := by
  obtain ⟨f, fd, F, e⟩ := A
  exact ⟨f, fd, ⟨fun _ _ _ _ q => q.2.elim fun _ ⟨_, _, _, q⟩ => q.elim, mono_f, fun _ _ _ _ _ _ _ _ _ _ _ _ _ _ _ _ _ _ _ ⟨_, _, _, _, _, q⟩ => q.elim⟩, e, F.kp, F.binds hb⟩
theorem rd_m {K : PySem.W.Frag} {u : DS} {fu : FS} {N : List Str} {n m : Nat} (hm : N.length = m) (h : SimS K u fu) : ∀ ds M Q E, fP K n (runF m fu) ds M Q E → u (endF Q E) (startD N ds) M := by
  subst hm; exact rd_f h
theorem rd_mo {K : PySem.W.Frag} {u : DS} {fu : FS} {N : List Str} {n m : Nat} (hm : N.length = m) (h : SimS K u fu) : ∀ ds M Q E, fPo K n (runO m fu) ds M Q E → u (endF Q E) (startD N ds) M := by
  subst hm; exact rd_fo h
theorem ask_of {K : PySem.W.Frag} {F : FF} {d : D} (h : ∃ S, F [.va d] = .ok (.bl true) S) : fP K 1 F [d] (fun _ => none) (fun d _ => d = .bl true) fun _ _ _ => False := by
  obtain ⟨S, e⟩ := h
  refine ⟨rfl, [.va d], fun _ => 0, fun _ => none, rel_va [d], ?_⟩
  rw [e]
  exact fun _ _ _ => rfl
theorem lawF {l : PySem.W.OpenLaw} {w : World} {K : PySem.W.Frag} {k n : Nat} {x xl : Str} {mg : Str → Option Value} {fa : Addr} {h : Heap} {tf : List He.Defn} {F : FF} (X : K.In h) (hfa : mg xl = some (.ref fa))
    (hd : ∀ p ∈ tf, PySem.W.codeHdIn K (He.cT K p).1 (He.cT K p).2 = true) (out : ∀ p ∈ tf, K.lookup (He.cT K p).2 = none) (em : ∀ p ∈ tf, h.get? (He.cT K p).2 = some { cls := .none, data := .fields #[] })
    (hsp : ∀ ns : List Int, ns.length ≤ n → (∀ z ∈ ns, Builtin.Int.intBits z ≤ 1048576) → ∃ S, F [.va (.scr (ns.map D.int))] = .ok (.bl true) S)
    (hF : ∀ base : Heap, K.In base → base.Ns mainGlobals mg → (∀ p ∈ tf.map (He.cT K), LamX.TabB base mg p.1 p.2) → FnX l.prog w K mg base (lamTab K tf) true k xl [x] (fP K 1 F)) : LawG l w K k n x xl mg fa h := by
  have mp : ∀ p ∈ tf.map (He.cT K), ∃ q ∈ tf, p = He.cT K q := fun p hp => by
    obtain ⟨q, hq, e⟩ := List.mem_map.mp hp
    exact ⟨q, hq, e.symm⟩
  refine ⟨hfa, tf.map (He.cT K), lamTab K tf, fP K 1 F, fun p hp => ?_, fun p hp => ?_, fun p hp => ?_, fun q hq => ?_, fun ns h1 h2 => ask_of (hsp ns h1 h2), hF⟩
  · obtain ⟨q, hq, rfl⟩ := mp p hp; exact em q hq
  · obtain ⟨q, hq, rfl⟩ := mp p hp; exact out q hq
  · obtain ⟨q, hq, rfl⟩ := mp p hp; exact PySem.W.codeHd_of_K X (hd q hq)
  · obtain ⟨p, hp, rfl⟩ := List.mem_map.mp hq
    exact ⟨_, List.mem_map.mpr ⟨p, hp, rfl⟩, rfl⟩
end DL

/-! Reading what is computed. -/
namespace DL
open PySem PySem.Spec PyProof.Rows L2
@[simp] theorem mem_ask0 : ("int" ∈ asked) = True := by simp [asked]
@[simp] theorem mem_ask1 : ("bool" ∈ asked) = True := by simp [asked]
@[simp] theorem mem_ask2 : ("str" ∈ asked) = True := by simp [asked]
@[simp] theorem mem_ask3 : ("tuple" ∈ asked) = True := by simp [asked]
@[simp] theorem mem_ask4 : ("list" ∈ asked) = True := by simp [asked]
@[simp] theorem mem_ask5 : ("dict" ∈ asked) = True := by simp [asked]
@[simp] theorem z_isiD {M : Mp} {ks : List Key} {xs : List D} {n : String} (h : asked.contains n = true) : gIsi [.dk ks xs, .ty n] M = some (.bl (isiB "dict" n)) := by simp only [gIsi, h, if_true, typeN, Option.map_some]
@[simp] theorem z_isiSc {M : Mp} {xs : List D} {n : String} (h : asked.contains n = true) : gIsi [.scr xs, .ty n] M = some (.bl (isiB "list" n)) := by simp only [gIsi, h, if_true, typeN, Option.map_some]
@[simp] theorem isiQ0 : isiB "int" "int" = true := by decide
@[simp] theorem isiQ1 : isiB "int" "bool" = false := by decide
@[simp] theorem isiQ2 : isiB "int" "str" = false := by decide
@[simp] theorem isiQ3 : isiB "int" "tuple" = false := by decide
@[simp] theorem isiQ4 : isiB "int" "list" = false := by decide
@[simp] theorem isiQ5 : isiB "int" "dict" = false := by decide
@[simp] theorem isiQ6 : isiB "bool" "int" = true := by decide
@[simp] theorem isiQ7 : isiB "bool" "bool" = true := by decide
@[simp] theorem isiQ8 : isiB "bool" "str" = false := by decide
@[simp] theorem isiQ9 : isiB "bool" "tuple" = false := by decide
@[simp] theorem isiQ10 : isiB "bool" "list" = false := by decide
@[simp] theorem isiQ11 : isiB "bool" "dict" = false := by decide
@[simp] theorem isiQ12 : isiB "str" "int" = false := by decide
@[simp] theorem isiQ13 : isiB "str" "bool" = false := by decide
@[simp] theorem isiQ14 : isiB "str" "str" = true := by decide
@[simp] theorem isiQ15 : isiB "str" "tuple" = false := by decide
@[simp] theorem isiQ16 : isiB "str" "list" = false := by decide
@[simp] theorem isiQ17 : isiB "str" "dict" = false := by decide
@[simp] theorem isiQ18 : isiB "tuple" "int" = false := by decide
@[simp] theorem isiQ19 : isiB "tuple" "bool" = false := by decide
@[simp] theorem isiQ20 : isiB "tuple" "str" = false := by decide
@[simp] theorem isiQ21 : isiB "tuple" "tuple" = true := by decide
@[simp] theorem isiQ22 : isiB "tuple" "list" = false := by decide
@[simp] theorem isiQ23 : isiB "tuple" "dict" = false := by decide
@[simp] theorem isiQ24 : isiB "list" "int" = false := by decide
@[simp] theorem isiQ25 : isiB "list" "bool" = false := by decide
@[simp] theorem isiQ26 : isiB "list" "str" = false := by decide
@[simp] theorem isiQ27 : isiB "list" "tuple" = false := by decide
@[simp] theorem isiQ28 : isiB "list" "list" = true := by decide
@[simp] theorem isiQ29 : isiB "list" "dict" = false := by decide
@[simp] theorem isiQ30 : isiB "dict" "int" = false := by decide
@[simp] theorem isiQ31 : isiB "dict" "bool" = false := by decide
@[simp] theorem isiQ32 : isiB "dict" "str" = false := by decide
@[simp] theorem isiQ33 : isiB "dict" "tuple" = false := by decide
@[simp] theorem isiQ34 : isiB "dict" "list" = false := by decide
@[simp] theorem isiQ35 : isiB "dict" "dict" = true := by decide
@[simp] theorem isiQ36 : isiB "NoneType" "int" = false := by decide
@[simp] theorem isiQ37 : isiB "NoneType" "bool" = false := by decide
@[simp] theorem isiQ38 : isiB "NoneType" "str" = false := by decide
@[simp] theorem isiQ39 : isiB "NoneType" "tuple" = false := by decide
@[simp] theorem isiQ40 : isiB "NoneType" "list" = false := by decide
@[simp] theorem isiQ41 : isiB "NoneType" "dict" = false := by decide
@[simp] theorem flags_allM {α : Type} {p : α → Bool} (xs : List α) : ((flags (xs.map fun d => .bl (p d))).bind fun bs => some (D.bl (bs.all fun b => b))) = some (.bl (xs.all p)) := by
  rw [flags_map]; simp [List.all_map]; rfl
@[simp] theorem flags_anyM {α : Type} {p : α → Bool} (xs : List α) : ((flags (xs.map fun d => .bl (p d))).bind fun bs => some (D.bl (bs.any fun b => b))) = some (.bl (xs.any p)) := by
  rw [flags_map]; simp [List.any_map]; rfl
@[simp] theorem nums_sumM {α : Type} {p : α → Int} (xs : List α) : ((nums (xs.map fun d => .int (p d))).bind fun bs => some (D.int bs.sum)) = some (.int (xs.map p).sum) := by
  rw [nums_map]; rfl
@[simp] theorem f_addT {M : Mp} {xs ys : List D} : fAdd (.tup xs) (.tup ys) M = if xs.length + ys.length ≤ sizeLine then some (.tup (xs ++ ys)) else none := of_eq_true (eq_self _)
@[simp] theorem f_addL {M : Mp} {xs ys : List D} : fAdd (.lst xs) (.lst ys) M = if xs.length + ys.length ≤ sizeLine then some (.lst (xs ++ ys)) else none := of_eq_true (eq_self _)
@[simp] theorem f_mulT {M : Mp} {xs : List D} {k : Int} : fMul (.tup xs) (.int k) M = if k = 1 then some (.tup xs) else if xs ≠ [] ∧ 2 ≤ k ∧ k ≤ 1000 ∧ xs.length ≤ 1000 then some (.tup (List.replicate k.toNat xs).flatten) else none := of_eq_true (eq_self _)
@[simp] theorem f_mulL {M : Mp} {xs : List D} {k : Int} : fMul (.lst xs) (.int k) M = if -1000000 ≤ k ∧ k ≤ 1000000 ∧ xs.length * k.toNat ≤ sizeLine then some (.lst (List.replicate k.toNat xs).flatten) else none := of_eq_true (eq_self _)
/-- a call's end without its names -/
inductive Rv where
  | ok (d : D) | ex (c : Str) (fs : DFs) | un
def Rv.to (r : Rv) (S : Fs) : R D := match r with
  | .ok d => .ok d S
  | .ex c fs => .ex c fs S
  | .un => .un
def R.v (r : R D) : Rv := match r with
  | .ok d _ => .ok d
  | .ex c fs _ => .ex c fs
  | .un => .un
def Fv (F : FF) (ds : List D) : Rv := (F (ds.map .va)).v
section
variable {α β : Type} {S : Fs} {i j l n : Nat} {f h : O2} {g : OL} {a b c : FE} {va vb vc : FV} {vs : FVs} {as : FAs} {A B : FT} {it : FI} {tg : FG} {gs : FGs} {u v : FS} {d x y z : D} {ds : List D} {F : FF} {s : SV} {q : Fs}
@[simp] theorem v_ok : (R.ok d S).v = .ok d := of_eq_true (eq_self _)
@[simp] theorem v_ex {c : Str} {fs : DFs} : (R.ex c fs S : R D).v = .ex c fs := of_eq_true (eq_self _)
@[simp] theorem to_ok : (Rv.ok d).to S = .ok d S := of_eq_true (eq_self _)
@[simp] theorem to_ex {c : Str} {fs : DFs} : (Rv.ex c fs).to S = .ex c fs S := of_eq_true (eq_self _)
@[simp] theorem f_get0 {s : SV} {r : Fs} : getS (s :: r) 0 = s := of_eq_true (eq_self _)
@[simp] theorem f_get1 {s : SV} {r : Fs} : getS (s :: r) (i + 1) = getS r i := of_eq_true (eq_self _)
@[simp] theorem f_set0 {s t : SV} {r : Fs} : setS (s :: r) 0 t = t :: r := of_eq_true (eq_self _)
@[simp] theorem f_set1 {s t : SV} {r : Fs} : setS (s :: r) (i + 1) t = s :: setS r i t := of_eq_true (eq_self _)
@[simp] theorem f_wipe0 : wipeS S [] = S := of_eq_true (eq_self _)
@[simp] theorem f_wipe1 {r : List Nat} : wipeS S (i :: r) = setS (wipeS S r) i .no := of_eq_true (eq_self _)
@[simp] theorem f_back0 {S0 : Fs} {s : SV} {q : Fs} : backS S0 (s :: q) [] = s :: q := of_eq_true (eq_self _)
@[simp] theorem f_back1 {S0 : Fs} {s : SV} {q : Fs} {r : List Nat} : backS S0 (s :: q) (i :: r) = setS (backS S0 (s :: q) r) i (match getS S0 i with
    | .va d => .va d
    | _ => .no) := of_eq_true (eq_self _)
@[simp] theorem sz_eq : sizeLine = 16777216 := sizeLine_eq
@[simp] theorem f_start {m : Nat} {vs : List SV} : startS m vs = vs ++ List.replicate (m - vs.length) .no := of_eq_true (eq_self _)
@[simp] theorem f_var : fVar i (s :: q) = (match getS (s :: q) i with
  | .va d => .ok d (s :: q)
  | _ => .un) := of_eq_true (eq_self _)
@[simp] theorem f_c : fC d (s :: q) = .ok d (s :: q) := of_eq_true (eq_self _)
@[simp] theorem f_sl : fSl i (s :: q) = (match getS (s :: q) i with
  | .no => .un
  | _ => .ok (.sl i) (s :: q)) := of_eq_true (eq_self _)
@[simp] theorem f_so : fSo a (s :: q) = (a (s :: q)).bind fun d S1 => .ok (.so d) S1 := of_eq_true (eq_self _)
@[simp] theorem f_lkso : look (s :: q) (.so d) = some d := of_eq_true (eq_self _)
@[simp] theorem f_lksl : look (s :: q) (.sl i) = (match getS (s :: q) i with
    | .va d => some d
    | .ow _ (.lst xs) => some (.lst xs)
    | .vw (.lst xs) => some (.lst xs)
    | _ => none) := of_eq_true (eq_self _)
@[simp] theorem f_lks0 : looks (s :: q) [] = some [] := of_eq_true (eq_self _)
@[simp] theorem f_lks1 {w : VD} {r : List VD} : looks (s :: q) (w :: r) = (look (s :: q) w).bind fun d => (looks (s :: q) r).bind fun ds => some (d :: ds) := of_eq_true (eq_self _)
@[simp] theorem f_srcso : src (s :: q) (.so d) = items Mn d := of_eq_true (eq_self _)
@[simp] theorem f_srcsl : src (s :: q) (.sl i) = (match getS (s :: q) i with
    | .va d => items Mn d
    | .vw (.lst xs) => some xs
    | _ => none) := of_eq_true (eq_self _)
@[simp] theorem f_vnil : vNil (s :: q) = .ok [] (s :: q) := of_eq_true (eq_self _)
@[simp] theorem f_vcons : vCons va vs (s :: q) = (va (s :: q)).bind fun v S1 => (vs S1).bind fun vs S2 => .ok (v :: vs) S2 := of_eq_true (eq_self _)
@[simp] theorem f_anil : aNil (s :: q) = .ok [] (s :: q) := of_eq_true (eq_self _)
@[simp] theorem f_acons : aCons a as (s :: q) = (a (s :: q)).bind fun v S1 => (as S1).bind fun vs S2 => .ok (v :: vs) S2 := of_eq_true (eq_self _)
@[simp] theorem f_tup : fTup as (s :: q) = (as (s :: q)).bind fun ds S1 => if ds.length ≤ sizeLine then .ok (.tup ds) S1 else .un := of_eq_true (eq_self _)
@[simp] theorem f_lst : fLst as (s :: q) = (as (s :: q)).bind fun ds S1 => if ds.length ≤ sizeLine then .ok (.lst ds) S1 else .un := of_eq_true (eq_self _)
@[simp] theorem f_lstO : fLstO as (s :: q) = (as (s :: q)).bind fun ds S1 => if ds.length ≤ sizeLine then .ok ds S1 else .un := of_eq_true (eq_self _)
@[simp] theorem f_emp : fEmp (s :: q) = .ok (.dk [] []) (s :: q) := of_eq_true (eq_self _)
@[simp] theorem f_op : fOp f va vb (s :: q) = (va (s :: q)).bind fun v S1 => (vb S1).bind fun w S2 => R.opt (look S2 v) fun x => R.opt (look S2 w) fun y => R.of (f x y Mn) S2 := of_eq_true (eq_self _)
@[simp] theorem f_opO : fOpO f va vb (s :: q) = (va (s :: q)).bind fun v S1 => (vb S1).bind fun w S2 => R.opt (look S2 v) fun x => R.opt (look S2 w) fun y => R.opt (f x y Mn) fun d => R.of (lstD d) S2 := of_eq_true (eq_self _)
@[simp] theorem f_fn : fFn g vs (s :: q) = (vs (s :: q)).bind fun vs S1 => R.opt (looks S1 vs) fun ds => R.of (g ds Mn) S1 := of_eq_true (eq_self _)
@[simp] theorem f_and : fAnd a b (s :: q) = (a (s :: q)).bind fun x S1 => R.opt (bool1 x) fun c => if c = true then b S1 else .ok (.bl false) S1 := of_eq_true (eq_self _)
@[simp] theorem f_or : fOr a b (s :: q) = (a (s :: q)).bind fun x S1 => R.opt (bool1 x) fun c => if c = true then .ok (.bl true) S1 else b S1 := of_eq_true (eq_self _)
@[simp] theorem f_not : fNot a (s :: q) = (a (s :: q)).bind fun x S1 => R.opt (bool1 x) fun c => .ok (.bl (!c)) S1 := of_eq_true (eq_self _)
@[simp] theorem f_neg : fNeg a (s :: q) = (a (s :: q)).bind fun x S1 => R.of (negD x) S1 := of_eq_true (eq_self _)
@[simp] theorem f_negI {k : Int} : negD (.int k) = some (.int (-k)) := of_eq_true (eq_self _)
@[simp] theorem f_if : fIf A a b (s :: q) = (A (s :: q)).bind fun k S1 => if k = true then a S1 else b S1 := of_eq_true (eq_self _)
@[simp] theorem f_chain : fChain f h va vb vc (s :: q) = (va (s :: q)).bind fun v S1 => (vb S1).bind fun w S2 => R.opt (look S2 v) fun x => R.opt (look S2 w) fun y => R.opt (f x y Mn) fun z => R.opt (bool1 z) fun k =>
  if k = true then (vc S2).bind fun u S3 => R.opt (look S3 w) fun y => R.opt (look S3 u) fun z => R.of (h y z Mn) S3 else .ok (.bl false) S2 := of_eq_true (eq_self _)
@[simp] theorem f_pnone : pNone (s :: q) = .ok none (s :: q) := of_eq_true (eq_self _)
@[simp] theorem f_intI {k : Int} : intD (.int k) = some k := of_eq_true (eq_self _)
@[simp] theorem f_lstL {xs : List D} : lstD (.lst xs) = some xs := of_eq_true (eq_self _)
@[simp] theorem f_psome : pSome a (s :: q) = (a (s :: q)).bind fun x S1 => R.opt (intD x) fun i => .ok (some i) S1 := of_eq_true (eq_self _)
@[simp] theorem f_part {lo hi : Fs → R (Option Int)} : fPart va lo hi (s :: q) = (va (s :: q)).bind fun v S1 => (lo S1).bind fun l S2 => (hi S2).bind fun h S3 => R.opt (look S3 v) fun x => R.of (part Mn x l h) S3 := of_eq_true (eq_self _)
@[simp] theorem f_tT : tT a (s :: q) = (a (s :: q)).bind fun x S1 => R.of (bool1 x) S1 := of_eq_true (eq_self _)
@[simp] theorem f_tA : tA A B (s :: q) = (A (s :: q)).bind fun c S1 => if c = true then B S1 else .ok false S1 := of_eq_true (eq_self _)
@[simp] theorem f_tO : tO A B (s :: q) = (A (s :: q)).bind fun c S1 => if c = true then .ok true S1 else B S1 := of_eq_true (eq_self _)
@[simp] theorem f_tN : tN A (s :: q) = (A (s :: q)).bind fun c S1 => .ok (!c) S1 := of_eq_true (eq_self _)
@[simp] theorem f_tY : tY (s :: q) = .ok true (s :: q) := of_eq_true (eq_self _)
@[simp] theorem f_seq : fSeq va (s :: q) = (va (s :: q)).bind fun v S1 => R.of (src S1 v) S1 := of_eq_true (eq_self _)
@[simp] theorem f_range1 : fRange1 as (s :: q) = (as (s :: q)).bind fun ds S1 => match ds with
  | [.int j] => if -4000000000000000000 ≤ j ∧ j ≤ 16777216 then .ok (rangeD 0 j.toNat) S1 else .un
  | _ => .un := of_eq_true (eq_self _)
@[simp] theorem f_range2 : fRange2 as (s :: q) = (as (s :: q)).bind fun ds S1 => match ds with
  | [.int i, .int j] => if -4000000000000000000 ≤ i ∧ i ≤ 4000000000000000000 ∧ -4000000000000000000 ≤ j ∧ j ≤ 4000000000000000000 ∧ j - i ≤ 16777216 then .ok (rangeD i (j - i).toNat) S1 else .un
  | _ => .un := of_eq_true (eq_self _)
@[simp] theorem f_zip : fZip vs (s :: q) = (vs (s :: q)).bind fun vs S1 => match vs with
  | [v, w] => R.opt (look S1 v) fun x => R.opt (look S1 w) fun y => if alikeSeq Mn x y = true then R.opt (src S1 v) fun xs => R.opt (src S1 w) fun ys => .ok (pairs xs ys) S1 else .un
  | _ => .un := of_eq_true (eq_self _)
@[simp] theorem f_gvar : fgVar i d (s :: q) = .ok () (setS (s :: q) i (.va d)) := of_eq_true (eq_self _)
@[simp] theorem f_gnil : fgNil [] (s :: q) = .ok () (s :: q) := of_eq_true (eq_self _)
@[simp] theorem f_gcons : fgCons tg gs (d :: ds) (s :: q) = (tg d (s :: q)).bnd fun _ S1 => gs ds S1 := of_eq_true (eq_self _)
@[simp] theorem f_gtup : fgTup n gs (.tup ds) (s :: q) = if ds.length = n then gs ds (s :: q) else .un := of_eq_true (eq_self _)
@[simp] theorem f_comp {vl : List Nat} : fComp it tg A a vl (s :: q) = (it (s :: q)).bind fun ds S1 => (compF tg A a vl ds S1).bnd fun ys S2 => .ok ys (backS S1 S2 vl) := of_eq_true (eq_self _)
@[simp] theorem f_toL : toL it (s :: q) = (it (s :: q)).bind fun xs S1 => .ok (.lst xs) S1 := of_eq_true (eq_self _)
@[simp] theorem f_bor {f : Fs → R α} : fBor i f (s :: q) = (match getS (s :: q) i with
  | .ow t (.lst xs) => (match f (setS (s :: q) i (.vw (.lst xs))) with
    | .ok a S1 => if (getS S1 i).isR = true then .ok a (setS S1 i (.ow t (.lst xs))) else .un
    | _ => .un)
  | _ => f (s :: q)) := of_eq_true (eq_self _)
@[simp] theorem f_isR1 {t : Option Nat} {o : OD} : (SV.ow t o).isR = true := of_eq_true (eq_self _)
@[simp] theorem f_isR2 {o : OD} : (SV.vw o).isR = true := of_eq_true (eq_self _)
@[simp] theorem f_comp0 {vl : List Nat} : compF tg A a vl [] (s :: q) = .ok [] (s :: q) := of_eq_true (eq_self _)
theorem f_comp1 {vl : List Nat} : compF tg A a vl (d :: ds) (s :: q) = (tg d (wipeS (s :: q) vl)).bnd fun _ S1 => (A S1).bnd fun b S2 => if b = true then (a S2).bnd fun y S3 => (compF tg A a vl ds S3).bnd fun ys S4 => .ok (y :: ys) S4 else compF tg A a vl ds S2 := of_eq_true (eq_self _)
theorem f_call' : fCall F as S = (as S).bind fun ds S1 => (Fv F ds).to S1 := by
  unfold fCall Fv
  cases as S with
  | ok ds S1 => simp only [R.bind_ok]; cases F (ds.map .va) <;> rfl
  | ex => rfl
  | un => rfl
@[simp] theorem f_call : fCall F as (s :: q) = (as (s :: q)).bind fun ds S1 => (Fv F ds).to S1 := f_call'
@[simp] theorem f_lam {wo : D → Option D} {wx : Str → DFs → Option D} : fLam wo wx a (s :: q) = (match a (s :: q) with
  | .ok d S1 => R.of (wo d) S1
  | .ex c fs S1 => R.of (wx c fs) S1
  | .un => .un) := of_eq_true (eq_self _)
@[simp] theorem f_ownL : ownL (s :: q) i = (match getS (s :: q) i with
  | .ow _ (.lst xs) => some xs
  | _ => none) := of_eq_true (eq_self _)
@[simp] theorem f_putL {xs : List D} : putL (s :: q) i xs = (match getS (s :: q) i with
  | .ow t _ => setS (s :: q) i (.ow t (.lst xs))
  | _ => (s :: q)) := of_eq_true (eq_self _)
theorem f_objS : objS S i = (match getS S i with
  | .ow _ o => some o
  | _ => none) := of_eq_true (eq_self _)
@[simp] theorem f_one1 {x : α} : one1 [x] = some x := of_eq_true (eq_self _)
@[simp] theorem f_app : fApp i as (s :: q) = R.opt (ownL (s :: q) i) fun _ => (as (s :: q)).bind fun ds S1 => R.opt (one1 ds) fun d => R.opt (ownL S1 i) fun xs => if xs.length < sizeLine then .ok .non (putL S1 i (xs ++ [d])) else .un := of_eq_true (eq_self _)
@[simp] theorem f_ext : fExt i vs (s :: q) = R.opt (ownL (s :: q) i) fun _ => (vs (s :: q)).bind fun vs S1 => R.opt (looks S1 vs) fun ds => R.opt (one1 ds) fun d => R.opt (lstD d) fun zs => R.opt (ownL S1 i) fun xs => if xs.length + zs.length ≤ sizeLine then .ok .non (putL S1 i (xs ++ zs)) else .un := of_eq_true (eq_self _)
@[simp] theorem f_pop0 : fPop0 i (s :: q) = R.opt (ownL (s :: q) i) fun xs => R.opt (xs[xs.length - 1]?) fun y => .ok y (putL (s :: q) i xs.dropLast) := of_eq_true (eq_self _)
@[simp] theorem f_gsub : fgSub i a d (s :: q) = R.opt (ownL (s :: q) i) fun _ => (a (s :: q)).bnd fun k S1 => R.opt (intD k) fun k => R.opt (ownL S1 i) fun xs => R.opt (L2.ixN xs.length k) fun j => .ok () (putL S1 i (xs.set j d)) := of_eq_true (eq_self _)
/-! statements -/
@[simp] theorem n_next : nNext (s :: q) = .nx (s :: q) := of_eq_true (eq_self _)
theorem n_seq : nSeq u v (s :: q) = (match u (s :: q) with
  | .nx S1 => v S1
  | o => o) := of_eq_true (eq_self _)
theorem n_drop : nDrop a (s :: q) = (a (s :: q)).out fun _ S1 => .nx S1 := of_eq_true (eq_self _)
theorem n_ret : nRet a (s :: q) = (a (s :: q)).out fun d S1 => .rt d S1 := of_eq_true (eq_self _)
theorem n_retO : nRetO it (s :: q) = (it (s :: q)).out fun xs S1 => .ro xs S1 := of_eq_true (eq_self _)
theorem n_if : nIf A u v (s :: q) = (A (s :: q)).out fun k S1 => if k = true then u S1 else v S1 := of_eq_true (eq_self _)
theorem n_asg : nAsg a tg (s :: q) = (a (s :: q)).out fun d S1 => (tg d S1).ou fun _ S2 => .nx S2 := of_eq_true (eq_self _)
theorem n_asgO : nAsgO it i (s :: q) = (it (s :: q)).out fun xs S1 => .nx (setS S1 i (.ow none (.lst xs))) := of_eq_true (eq_self _)
theorem n_par : nPar i j as (s :: q) = (as (s :: q)).out fun ds S1 => match ds with
  | [x, y] => .nx (setS (setS S1 i (.va x)) j (.va y))
  | _ => .un := of_eq_true (eq_self _)
theorem n_par3 : nPar3 i j l as (s :: q) = (as (s :: q)).out fun ds S1 => match ds with
  | [x, y, z] => .nx (setS (setS (setS S1 i (.va x)) j (.va y)) l (.va z))
  | _ => .un := of_eq_true (eq_self _)
@[simp] theorem n_brk : nBrk (s :: q) = .bk (s :: q) := of_eq_true (eq_self _)
@[simp] theorem n_ct : nCt (s :: q) = .ct (s :: q) := of_eq_true (eq_self _)
@[simp] theorem n_raise {c : Str} : nRaise c (s :: q) = .ex c [] (s :: q) := of_eq_true (eq_self _)
theorem n_for : nFor it tg u (s :: q) = (it (s :: q)).out fun ds S1 => forF tg u ds S1 := of_eq_true (eq_self _)
theorem n_for0 : forF tg u [] (s :: q) = .nx (s :: q) := of_eq_true (eq_self _)
theorem n_for1 : forF tg u (d :: ds) (s :: q) = (tg d (s :: q)).ou fun _ S1 => match u S1 with
    | .nx S2 => forF tg u ds S2
    | .ct S2 => forF tg u ds S2
    | .bk S2 => .nx S2
    | o => o := of_eq_true (eq_self _)
@[simp] theorem n_frz : nFrz i u (s :: q) = (match getS (s :: q) i with
  | .ow none (.lst xs) => u (setS (s :: q) i (.va (.lst xs)))
  | .va _ => u (s :: q)
  | _ => .un) := of_eq_true (eq_self _)
theorem r_runF {m : Nat} {vs : List SV} : runF m u vs = (match u (startS m vs) with
  | .nx S => .ok .non S
  | .rt d S => .ok d S
  | .ex c fs S => .ex c fs S
  | _ => .un) := of_eq_true (eq_self _)
theorem r_runO {m : Nat} {vs : List SV} : runO m u vs = (match u (startS m vs) with
  | .ro xs S => .ok (.lst xs) S
  | .ex c fs S => .ex c fs S
  | _ => .un) := of_eq_true (eq_self _)
/-! ### -/
theorem backS_w {S0 S1 : Fs} {vl : List Nat} (h : wipeS S1 vl = wipeS S vl) : backS S0 S1 vl = backS S0 S vl := by rw [← backS_wipe, h, backS_wipe]
end
/-! ### what holds at the end -/
structure Kt where
  nx : Fs → Prop
  rt : D → Fs → Prop
  ex : Str → DFs → Fs → Prop := fun _ _ _ => False
  bk : Fs → Prop := fun _ => False
  ct : Fs → Prop := fun _ => False
  ro : List D → Fs → Prop := fun _ _ => False
def okR {α : Type} (r : R α) (Q : α → Fs → Prop) (E : Str → DFs → Fs → Prop) : Prop := match r with
  | .ok a S => Q a S
  | .ex c fs S => E c fs S
  | .un => False
def okO (o : Out) (k : Kt) : Prop := match o with
  | .nx S => k.nx S
  | .rt d S => k.rt d S
  | .ex c fs S => k.ex c fs S
  | .bk S => k.bk S
  | .ct S => k.ct S
  | .ro xs S => k.ro xs S
  | .un => False
abbrev noE : Str → DFs → Fs → Prop := fun _ _ _ => False
section
variable {α β : Type} {S : Fs} {i j l n : Nat} {f h : O2} {g : OL} {a b c : FE} {va vb vc : FV} {vs : FVs} {as : FAs} {A B : FT} {it : FI} {tg : FG} {gs : FGs} {u v : FS} {d x y z : D} {ds : List D} {F : FF} {s : SV} {q : Fs} {k : Kt} {E : Str → DFs → Fs → Prop}
@[simp] theorem okR_ok {x : α} {Q : α → Fs → Prop} : okR (.ok x S) Q E = Q x S := of_eq_true (eq_self _)
@[simp] theorem okR_ex {c : Str} {fs : DFs} {Q : α → Fs → Prop} : okR (.ex c fs S) Q E = E c fs S := of_eq_true (eq_self _)
@[simp] theorem okR_un {Q : α → Fs → Prop} : okR .un Q E = False := of_eq_true (eq_self _)
@[simp] theorem okO_nx : okO (.nx S) k = k.nx S := of_eq_true (eq_self _)
@[simp] theorem okO_rt : okO (.rt d S) k = k.rt d S := of_eq_true (eq_self _)
@[simp] theorem okO_ex {c : Str} {fs : DFs} : okO (.ex c fs S) k = k.ex c fs S := of_eq_true (eq_self _)
@[simp] theorem okO_bk : okO (.bk S) k = k.bk S := of_eq_true (eq_self _)
@[simp] theorem okO_ct : okO (.ct S) k = k.ct S := of_eq_true (eq_self _)
@[simp] theorem okO_ro {xs : List D} : okO (.ro xs S) k = k.ro xs S := of_eq_true (eq_self _)
@[simp] theorem okO_un : okO .un k = False := of_eq_true (eq_self _)
theorem okR_bind' (r : R α) (kk : α → Fs → R β) (Q : β → Fs → Prop) : okR (r.bind kk) Q E = okR r (fun x S => okR (kk x S) Q E) E := by cases r <;> rfl
theorem okR_bnd {r : R α} {kk : α → Fs → R β} {Q : β → Fs → Prop} (h : okR r (fun x S => okR (kk x S) Q E) noE) : okR (r.bnd kk) Q E := by
  cases r with
  | ok x S => exact h
  | ex => exact h.elim
  | un => exact h.elim
theorem okO_out' (r : R α) (kk : α → Fs → Out) : okO (r.out kk) k = okR r (fun x S => okO (kk x S) k) k.ex := by cases r <;> rfl
@[simp] theorem ok_seq : okO (nSeq u v (s :: q)) k = okO (u (s :: q)) { k with nx := fun S1 => okO (v S1) k } := by
  unfold nSeq
  cases u (s :: q) <;> rfl
@[simp] theorem ok_if : okO (nIf A u v (s :: q)) k = okR (A (s :: q)) (fun b S1 => if b = true then okO (u S1) k else okO (v S1) k) k.ex := by
  unfold nIf
  cases A (s :: q) with
  | ok b S1 => cases b <;> rfl
  | ex => rfl
  | un => rfl
@[simp] theorem ok_asg : okO (nAsg a tg (s :: q)) k = okR (a (s :: q)) (fun d S1 => okR (tg d S1) (fun _ S2 => k.nx S2) noE) k.ex := by
  unfold nAsg
  cases a (s :: q) with
  | ok d S1 =>
    show okO ((tg d S1).ou fun _ S2 => .nx S2) k = okR (tg d S1) (fun _ S2 => k.nx S2) noE
    cases tg d S1 <;> rfl
  | ex => rfl
  | un => rfl
@[simp] theorem ok_asgO : okO (nAsgO it i (s :: q)) k = okR (it (s :: q)) (fun xs S1 => k.nx (setS S1 i (.ow none (.lst xs)))) k.ex := by
  unfold nAsgO
  cases it (s :: q) <;> rfl
@[simp] theorem ok_drop : okO (nDrop a (s :: q)) k = okR (a (s :: q)) (fun _ S1 => k.nx S1) k.ex := by
  unfold nDrop
  cases a (s :: q) <;> rfl
@[simp] theorem ok_ret : okO (nRet a (s :: q)) k = okR (a (s :: q)) (fun d S1 => k.rt d S1) k.ex := by
  unfold nRet
  cases a (s :: q) <;> rfl
@[simp] theorem ok_retO : okO (nRetO it (s :: q)) k = okR (it (s :: q)) (fun d S1 => k.ro d S1) k.ex := by
  unfold nRetO
  cases it (s :: q) <;> rfl
@[simp] theorem ok_for : okO (nFor it tg u (s :: q)) k = okR (it (s :: q)) (fun ds S1 => okO (forF tg u ds S1) k) k.ex := by
  unfold nFor
  cases it (s :: q) <;> rfl
@[simp] theorem ok_par : okO (nPar i j as (s :: q)) k = okR (as (s :: q)) (fun ds S1 => okO (match ds with
  | [x, y] => .nx (setS (setS S1 i (.va x)) j (.va y))
  | _ => .un) k) k.ex := by
  unfold nPar
  cases as (s :: q) <;> rfl
@[simp] theorem ok_par3 : okO (nPar3 i j l as (s :: q)) k = okR (as (s :: q)) (fun ds S1 => okO (match ds with
  | [x, y, z] => .nx (setS (setS (setS S1 i (.va x)) j (.va y)) l (.va z))
  | _ => .un) k) k.ex := by
  unfold nPar3
  cases as (s :: q) <;> rfl
@[simp] theorem ok_lam {wo : D → Option D} {wx : Str → DFs → Option D} {Q : D → Fs → Prop} : okR (fLam wo wx a (s :: q)) Q E = okR (a (s :: q)) (fun d S1 => okR (R.of (wo d) S1) Q E) (fun c fs S1 => okR (R.of (wx c fs) S1) Q E) := by
  unfold fLam
  cases a (s :: q) <;> rfl
theorem okR.mono {r : R α} {Q Q' : α → Fs → Prop} {E E' : Str → DFs → Fs → Prop} (h : okR r Q E) (k : ∀ x S, Q x S → Q' x S) (ke : ∀ c fs S, E c fs S → E' c fs S) : okR r Q' E' := by
  cases r with
  | ok x S => exact k x S h
  | ex c fs S => exact ke c fs S h
  | un => exact h
theorem okR.e {r : R α} {Q : α → Fs → Prop} (h : okR r Q noE) : ∃ x S, r = .ok x S ∧ Q x S := by
  cases r with
  | ok x S => exact ⟨x, S, rfl, h⟩
  | ex => exact h.elim
  | un => exact h.elim
/-- a loop by what holds at each turn -/
theorem okO.for (I : List D → Fs → Prop) (step : ∀ d ds S, I (d :: ds) S → okR (tg d S) (fun _ S1 => okO (u S1) { k with nx := I ds, ct := I ds, bk := k.nx }) noE) (fin : ∀ S, I [] S → k.nx S) : ∀ (ds : List D) (S : Fs), I ds S → okO (forF tg u ds S) k
  | [], S, h => fin S h
  | d :: ds, S, h => by
    obtain ⟨x, S1, e, q⟩ := (step d ds S h).e
    have e' : forF tg u (d :: ds) S = (match u S1 with
      | .nx S2 => forF tg u ds S2
      | .ct S2 => forF tg u ds S2
      | .bk S2 => .nx S2
      | o => o) := by
      show (tg d S).ou _ = _
      rw [e]; rfl
    rw [e']
    cases e2 : u S1 with
    | nx S2 => rw [e2] at q; exact okO.for I step fin ds S2 q
    | ct S2 => rw [e2] at q; exact okO.for I step fin ds S2 q
    | bk S2 => rw [e2] at q; exact q
    | rt d S2 => rw [e2] at q; exact q
    | ro => rw [e2] at q; exact q
    | ex => rw [e2] at q; exact q
    | un => rw [e2] at q; exact q
/-- a comprehension by what holds at each turn -/
theorem okR.comp0 {vl : List Nat} {Q : List D → Fs → Prop} (I : List D → List D → Fs → Prop) (step : ∀ d ds acc S, I (d :: ds) acc S → okR (tg d (wipeS S vl)) (fun _ S1 => okR (A S1) (fun b S2 => if b = true then okR (a S2) (fun y S3 => I ds (acc ++ [y]) S3) noE else I ds acc S2) noE) noE)
    (fin : ∀ acc S, I [] acc S → Q acc S) : ∀ (ds acc : List D) (S : Fs), I ds acc S → okR (compF tg A a vl ds S) (fun ys S1 => Q (acc ++ ys) S1) noE
  | [], acc, S, h => by
    show Q (acc ++ []) S
    rw [List.append_nil]; exact fin acc S h
  | d :: ds, acc, S, h => by
    obtain ⟨x, S1, e, q⟩ := (step d ds acc S h).e
    obtain ⟨b, S2, e2, q⟩ := q.e
    have e' : compF tg A a vl (d :: ds) S = if b = true then (a S2).bnd fun y S3 => (compF tg A a vl ds S3).bnd fun ys S4 => .ok (y :: ys) S4 else compF tg A a vl ds S2 := by
      show (tg d (wipeS S vl)).bnd _ = _
      rw [e, R.bnd_ok, e2, R.bnd_ok]
    rw [e']
    cases b with
    | false => exact okR.comp0 I step fin ds acc S2 q
    | true =>
      rw [if_pos rfl] at q ⊢
      obtain ⟨y, S3, e3, q⟩ := q.e
      rw [e3, R.bnd_ok]
      obtain ⟨ys, S4, e4, q⟩ := (okR.comp0 I step fin ds (acc ++ [y]) S3 q).e
      rw [e4, R.bnd_ok, okR_ok]
      simpa using q
theorem okR.comp {vl : List Nat} {Q : List D → Fs → Prop} (I : List D → List D → Fs → Prop) (step : ∀ d ds acc S, I (d :: ds) acc S → okR (tg d (wipeS S vl)) (fun _ S1 => okR (A S1) (fun b S2 => if b = true then okR (a S2) (fun y S3 => I ds (acc ++ [y]) S3) noE else I ds acc S2) noE) noE)
    (fin : ∀ acc S, I [] acc S → Q acc S) (ds : List D) (S : Fs) (h : I ds [] S) : okR (compF tg A a vl ds S) (fun ys S1 => Q ys S1) E := (okR.comp0 I step fin ds [] S h).mono (fun _ _ z => z) fun _ _ _ z => z.elim
/-- .. of a pure element -/
theorem comp_pure {vl : List Nat} (f : D → D) (ds : List D) (S : Fs) (hw : wipeS (wipeS S vl) vl = wipeS S vl) (h : ∀ d ∈ ds, ∃ S1, tg d (wipeS S vl) = .ok () S1 ∧ a S1 = .ok (f d) S1 ∧ wipeS S1 vl = wipeS S vl) :
    ∃ S2, compF tg tY a vl ds S = .ok (ds.map f) S2 ∧ ∀ S0, backS S0 S2 vl = backS S0 S vl := by
  have go : ∀ (ds : List D) (S : Fs), wipeS (wipeS S vl) vl = wipeS S vl → (∀ d ∈ ds, ∃ S1, tg d (wipeS S vl) = .ok () S1 ∧ a S1 = .ok (f d) S1 ∧ wipeS S1 vl = wipeS S vl) → ∃ S2, compF tg tY a vl ds S = .ok (ds.map f) S2 ∧ wipeS S2 vl = wipeS S vl := by
    intro ds
    induction ds with
    | nil => intro S _ _; exact ⟨S, rfl, rfl⟩
    | cons d ds ih =>
      intro S hw h
      obtain ⟨S1, e1, e2, e3⟩ := h d List.mem_cons_self
      obtain ⟨S2, e4, e5⟩ := ih S1 (by rw [e3, hw]) (fun d hd => by rw [e3]; exact h d (List.mem_cons_of_mem _ hd))
      refine ⟨S2, ?_, by rw [e5, e3]⟩
      show (tg d (wipeS S vl)).bnd _ = _
      rw [e1, R.bnd_ok]
      show (R.ok true S1).bnd _ = _
      rw [R.bnd_ok, if_pos rfl, e2, R.bnd_ok, e4, R.bnd_ok]
      rfl
  obtain ⟨S2, e, w⟩ := go ds S hw h
  exact ⟨S2, e, fun S0 => by rw [← backS_wipe, w, backS_wipe]⟩
/-- .. with a pure test -/
theorem comp_pureF {vl : List Nat} (f : D → D) (t : D → Bool) (ds : List D) (S : Fs) (hw : wipeS (wipeS S vl) vl = wipeS S vl) (h : ∀ d ∈ ds, ∃ S1, tg d (wipeS S vl) = .ok () S1 ∧ A S1 = .ok (t d) S1 ∧ (t d = true → a S1 = .ok (f d) S1) ∧ wipeS S1 vl = wipeS S vl) :
    ∃ S2, compF tg A a vl ds S = .ok ((ds.filter t).map f) S2 ∧ ∀ S0, backS S0 S2 vl = backS S0 S vl := by
  have go : ∀ (ds : List D) (S : Fs), wipeS (wipeS S vl) vl = wipeS S vl → (∀ d ∈ ds, ∃ S1, tg d (wipeS S vl) = .ok () S1 ∧ A S1 = .ok (t d) S1 ∧ (t d = true → a S1 = .ok (f d) S1) ∧ wipeS S1 vl = wipeS S vl) → ∃ S2, compF tg A a vl ds S = .ok ((ds.filter t).map f) S2 ∧ wipeS S2 vl = wipeS S vl := by
    intro ds
    induction ds with
    | nil => intro S _ _; exact ⟨S, rfl, rfl⟩
    | cons d ds ih =>
      intro S hw h
      obtain ⟨S1, e1, e0, e2, e3⟩ := h d List.mem_cons_self
      obtain ⟨S2, e4, e5⟩ := ih S1 (by rw [e3, hw]) (fun d hd => by rw [e3]; exact h d (List.mem_cons_of_mem _ hd))
      refine ⟨S2, ?_, by rw [e5, e3]⟩
      show (tg d (wipeS S vl)).bnd _ = _
      rw [e1, R.bnd_ok]
      show (A S1).bnd _ = _
      rw [e0, R.bnd_ok]
      cases ht : t d with
      | true =>
        rw [if_pos rfl, e2 ht, R.bnd_ok, e4, R.bnd_ok, List.filter_cons_of_pos (by exact ht)]
        rfl
      | false =>
        rw [if_neg Bool.false_ne_true, e4, List.filter_cons_of_neg (by rw [ht]; exact Bool.false_ne_true)]
  obtain ⟨S2, e, w⟩ := go ds S hw h
  exact ⟨S2, e, fun S0 => by rw [← backS_wipe, w, backS_wipe]⟩
theorem wipe_wipe' (S : Fs) (vl : List Nat) : wipeS (wipeS S vl) vl = wipeS S vl := wipeS_wipe S vl
/-! ### a def's end -/
theorem Fv_of {m : Nat} (h : okO (u (startS m (ds.map .va))) ⟨fun _ => .non = d, fun d' _ => d' = d, noE, fun _ => False, fun _ => False, fun _ _ => False⟩) : Fv (runF m u) ds = .ok d := by
  unfold Fv runF
  cases e : u (startS m (ds.map .va)) <;> rw [e] at h <;> first | exact h.elim | skip
  · exact congrArg Rv.ok h
  · exact congrArg Rv.ok h
theorem Fv_ex {m : Nat} {P : D → Prop} (h : okO (u (startS m (ds.map .va))) ⟨fun _ => P .non, fun d' _ => P d', noE, fun _ => False, fun _ => False, fun _ _ => False⟩) : ∃ d, P d ∧ Fv (runF m u) ds = .ok d := by
  unfold Fv runF
  cases e : u (startS m (ds.map .va)) <;> rw [e] at h <;> first | exact h.elim | exact ⟨_, h, rfl⟩
theorem Fx_of {m : Nat} {c : Str} (h : okO (u (startS m (ds.map .va))) ⟨fun _ => False, fun _ _ => False, fun c' fs _ => c' = c ∧ fs = [], fun _ => False, fun _ => False, fun _ _ => False⟩) : Fv (runF m u) ds = .ex c [] := by
  unfold Fv runF
  cases e : u (startS m (ds.map .va)) <;> rw [e] at h <;> first | exact h.elim | skip
  obtain ⟨rfl, rfl⟩ := h
  rfl
end
/-- what a def that hands back a list of its own gives -/
def Ov (F : FF) (ds : List D) : Option (List D) := match F (ds.map .va) with
  | .ok (.lst xs) _ => some xs
  | _ => none
@[simp] theorem f_callO {F : FF} {as : FAs} {s : SV} {q : Fs} : fCallO F as (s :: q) = (as (s :: q)).bind fun ds S1 => R.of (Ov F ds) S1 := by
  unfold fCallO Ov
  cases as (s :: q) with
  | ok ds S1 =>
    simp only [R.bind_ok]
    cases F (ds.map .va) with
    | ok d S2 => cases d <;> rfl
    | ex => rfl
    | un => rfl
  | ex => rfl
  | un => rfl
theorem Ov_of {m : Nat} {u : FS} {ds l : List D} (h : okO (u (startS m (ds.map .va))) ⟨fun _ => False, fun _ _ => False, noE, fun _ => False, fun _ => False, fun xs _ => xs = l⟩) : Ov (runO m u) ds = some l := by
  unfold Ov runO
  cases e : u (startS m (ds.map .va)) <;> rw [e] at h <;> first | exact h.elim | skip
  exact congrArg some h
/-! ### defs that draw from a hand -/
/-- at any hand as wished, F gives what P tells, and a hand as wished -/
def Hd (HO : List D → Prop) (F : FF) (ds : List D) (P : D → Prop) : Prop := ∀ l, HO l → okR (F (.ow (some 0) (.lst l) :: ds.map .va)) (fun d S => P d ∧ ∃ l', getS S 0 = .ow (some 0) (.lst l') ∧ HO l') noE
theorem Hd_of {HO : List D → Prop} {m : Nat} {u : FS} {ds : List D} {P : D → Prop} (h : ∀ l, HO l → okO (u (startS m (.ow (some 0) (.lst l) :: ds.map .va))) ⟨fun S => P .non ∧ ∃ l', getS S 0 = .ow (some 0) (.lst l') ∧ HO l', fun d S => P d ∧ ∃ l', getS S 0 = .ow (some 0) (.lst l') ∧ HO l', noE, fun _ => False, fun _ => False, fun _ _ => False⟩) : Hd HO (runF m u) ds P := fun l hl => by
  have q := h l hl
  unfold runF
  cases e : u (startS m (.ow (some 0) (.lst l) :: ds.map .va)) <;> rw [e] at q <;> first | exact q.elim | exact q
theorem okR.callH {HO : List D → Prop} {F : FF} {ds : List D} {P : D → Prop} (h : Hd HO F ds P) {i : Nat} {as : FAs} {S : Fs} {t : Option Nat} {l0 l : List D} {S1 : Fs} {Q : D → Fs → Prop} {E : Str → DFs → Fs → Prop} (e0 : getS S i = .ow t (.lst l0)) (ea : as S = .ok ds S1) (e : getS S1 i = .ow t (.lst l)) (hl : HO l)
    (q : ∀ d l', P d → HO l' → Q d (setS S1 i (.ow t (.lst l')))) : okR (fCallH F i as S) Q E := by
  unfold fCallH
  rw [f_objS, e0]
  dsimp only [R.opt]
  rw [ea, R.bind_ok, f_objS, e]
  dsimp only [R.opt]
  obtain ⟨d, S2, e2, p, l', e3, hl'⟩ := (h l hl).e
  rw [e2]
  dsimp only
  rw [e3]
  simp only [backO, e, R.opt_some, okR_ok]
  exact q d l' p hl'
end DL

/-! Comprehensions read by one rewriting. -/
namespace DL
open PySem PySem.Spec PyProof.Rows L2
section
variable {S : Fs} {a : FE} {A : FT} {tg : FG} {vl : List Nat} {ds : List D}
theorem compR (f : D → D) (h : ∀ d ∈ ds, ∃ S1, tg d (wipeS S vl) = .ok () S1 ∧ a S1 = .ok (f d) S1 ∧ wipeS S1 vl = wipeS S vl) : ((compF tg tY a vl ds S).bnd fun ys S2 => R.ok ys (backS S S2 vl)) = .ok (ds.map f) (backS S S vl) := by
  obtain ⟨S2, e, w⟩ := comp_pure f ds S (wipe_wipe' _ _) h
  rw [e, R.bnd_ok, w]
theorem compRF (f : D → D) (t : D → Bool) (h : ∀ d ∈ ds, ∃ S1, tg d (wipeS S vl) = .ok () S1 ∧ A S1 = .ok (t d) S1 ∧ (t d = true → a S1 = .ok (f d) S1) ∧ wipeS S1 vl = wipeS S vl) : ((compF tg A a vl ds S).bnd fun ys S2 => R.ok ys (backS S S2 vl)) = .ok ((ds.filter t).map f) (backS S S vl) := by
  obtain ⟨S2, e, w⟩ := comp_pureF f t ds S (wipe_wipe' _ _) h
  rw [e, R.bnd_ok, w]
@[simp] theorem z_eqS {M : Mp} {a b : Str} : fEq (.str a) (.str b) M = some (.bl (decide (a = b))) := of_eq_true (eq_self _)
@[simp] theorem z_neS {M : Mp} {a b : Str} : fNe (.str a) (.str b) M = some (.bl (!decide (a = b))) := of_eq_true (eq_self _)
@[simp] theorem part_tup {M : Mp} {xs : List D} {lo hi : Option Int} : part M (.tup xs) lo hi = some (.tup (cutD xs lo hi)) := of_eq_true (eq_self _)
theorem f_mulRep {M : Mp} {x : D} {k : Int} (h1 : 1 ≤ k) (h2 : k ≤ 1000) : fMul (.tup [x]) (.int k) M = some (.tup (List.replicate k.toNat x)) := by
  rw [f_mulT]
  by_cases e : k = 1
  · subst e; rfl
  · rw [if_neg e, if_pos ⟨by simp, by omega, h2, by simp⟩]
    congr 2
    generalize k.toNat = n
    induction n with
    | zero => rfl
    | succ n ih => simp [List.replicate_succ, ih]
@[simp] theorem listT {M : Mp} {xs : List D} : gList [.tup xs] M = some (.lst xs) := of_eq_true (eq_self _)
@[simp] theorem listL {M : Mp} {xs : List D} : gList [.lst xs] M = some (.lst xs) := of_eq_true (eq_self _)
end
end DL

/-! enumerate; flags.count, flags.index; try .. except X as e; defs that tell a word by isinstance. -/
namespace DL
open PySem PySem.Spec PyProof.Rows L2
/-! ### enumerate -/
def fEnum (a : FVs) : FI := fun S => (a S).bind fun vs S1 => match vs with
  | [v] => R.opt (src S1 v) fun xs => .ok (enumD 0 xs) S1
  | _ => .un
section
variable {K : PySem.W.Frag} {ta to : DE} {t : DA} {vs : FVs} {va : FV} {fa : FAs}
theorem simi_enum (h : SimVs K t vs) : SimI K (iEnumD t) (fEnum vs) := fun ad M0 S τ M Q E r q =>
  h ad M0 S τ M _ E r (q.bind fun ws S1 M1 r1 q1 ds hds => by
    split at q1
    · obtain ⟨e1, q1', rfl, h1, rfl⟩ := hds
      obtain ⟨xs, exs, q1⟩ := q1.opt
      obtain ⟨i1, o1⟩ := r1.src h1 exs
      exact ok1_of i1 (q1 M1 r1 _ o1)
    · exact q1.elim)
/-! ### flags.count, flags.index -/
def fMeB (g : List Bool → Bool → Option D) (va : FV) (fa : FAs) : FE := fun S => (va S).bind fun v S1 => R.opt ((look S1 v).bind (itemsL Mn)) fun _ => (fa S1).bind fun ds S2 => R.opt ((look S2 v).bind (itemsL Mn)) fun xs => R.opt (flags xs) fun bs => match ds with
  | [.bl k] => R.of (g bs k) S2
  | _ => .un
def gCB (bs : List Bool) (k : Bool) : Option D := some (.int (bs.count k : Nat))
def gIB (bs : List Bool) (k : Bool) : Option D := if k ∈ bs then some (.int (bs.idxOf k : Nat)) else none
theorem sim_meB {g : List Bool → Bool → Option D} {r : DM} (hr : ∀ d k M Q bs z, (itemsL M d).bind flags = some bs → g bs k = some z → Q z M → r d [.bl k] M Q) (h : SimV K to va) (h2 : Sim K t fa) : Sim K (dMeth tySq r to t) (fMeB g va fa) := fun ad M0 S τ M Q E rl q =>
  h ad M0 S τ M _ E rl (q.bind fun v S1 M1 r1 q1 d hd => by
    obtain ⟨xs, exs, q1⟩ := q1.opt
    obtain ⟨x, ex, exs⟩ := Option.bind_eq_some_iff.mp exs
    refine ⟨⟨xs, itemsL_vw (r1.look hd ex) exs⟩, h2 ad M0 S1 τ M1 _ E r1 (q1.bind fun ds S2 M2 r2 q2 => ?_)⟩
    obtain ⟨ys, eys, q2⟩ := q2.opt
    obtain ⟨y, ey, eys⟩ := Option.bind_eq_some_iff.mp eys
    obtain ⟨bs, ebs, q2⟩ := q2.opt
    split at q2
    · obtain ⟨z, ez, q2⟩ := q2.of
      exact hr d _ M2 Q bs z (by rw [itemsL_vw (r2.look hd ey) eys]; exact ebs) ez (q2 M2 r2)
    · exact q2.elim)
theorem sim_cntB (h : SimV K to va) (h2 : Sim K t fa) : Sim K (dMeth tySq rCB to t) (fMeB gCB va fa) := sim_meB (fun d k M Q bs z e ez q => by
  cases ez
  exact ok1_of e q) h h2
theorem sim_idxB (h : SimV K to va) (h2 : Sim K t fa) : Sim K (dMeth tySq rIB to t) (fMeB gIB va fa) := sim_meB (fun d k M Q bs z e ez q => by
  unfold gIB at ez
  split at ez
  · cases ez
    exact ok1_of e ⟨by assumption, q⟩
  · cases ez) h h2
/-! ### isinstance(e, Y) -/
def fIsE (l : List Str) (a : Addr) (x : Str) (i : Nat) (y : Str) : FE := fun S => match getS S i with
  | .va (.ref b) => if b = a ∧ x ∈ l ∧ y ∈ l then .ok (.bl (decide (x = y))) S else .un
  | _ => .un
def fIsV (l : List Str) (a : Addr) (x : Str) (i : Nat) : FE := fun S => match getS S i with
  | .va (.ref b) => if b = a ∧ x ∈ l then .ok (.bl true) S else .un
  | _ => .un
theorem sim_isE {l : List Str} {a : Addr} {x y : Str} {i : Nat} (F : ExF K l) : Sim K (dFn (gIsE K a x) (dCons (dVar i) (dCons (dC (.ref (He.ga K y))) dNil))) (fIsE l a x i y) := fun ad M0 S τ M Q E r q => by
  unfold fIsE at q
  split at q
  · rename_i b e
    obtain ⟨⟨hb, hx, hy⟩, q2⟩ := q.ite
    subst hb
    refine ok1_of (r.va _ _ e) (ok1_of (a := D.bl (decide (x = y))) ?_ (q2 M r))
    show (if b = b then (PySem.W.kitOne K (cl K x) (.ref (He.ga K y))).map D.bl else none) = _
    rw [if_pos rfl, show PySem.W.kitOne K (cl K x) (.ref (He.ga K y)) = some (decide (x = y)) from F.is x hx y hy]
    rfl
  · exact q.elim
theorem sim_isV {l : List Str} {a : Addr} {x : Str} {i : Nat} (F : ExF K l) : Sim K (dFn (gIsE K a x) (dCons (dVar i) (dCons (dC (.ty "ValueError")) dNil))) (fIsV l a x i) := fun ad M0 S τ M Q E r q => by
  unfold fIsV at q
  split at q
  · rename_i b e
    obtain ⟨⟨hb, hx⟩, q2⟩ := q.ite
    subst hb
    refine ok1_of (r.va _ _ e) (ok1_of (a := D.bl true) ?_ (q2 M r))
    show (if b = b then (PySem.W.kitOne K (cl K x) (.type "ValueError")).map D.bl else none) = _
    rw [if_pos rfl, F.ve x hx]
    rfl
  · exact q.elim
def S0 (n : Nat) : Fs := List.replicate n .no
theorem getS_S0 : ∀ (n i : Nat), getS (S0 n) i = .no
  | 0, _ => rfl
  | n + 1, 0 => rfl
  | n + 1, i + 1 => getS_S0 n i
/-! ### try .. except X as e -/
open Classical in
noncomputable def allA (f : Addr → Out) : Out := if ∀ a, f a = f 0 then f 0 else .un
theorem allA_const {o : Out} : allA (fun _ => o) = o := by
  unfold allA
  rw [if_pos fun _ => rfl]
def goneO (i : Nat) : Out → Out
  | .nx S => .nx (setS S i .no)
  | .rt d S => .rt d (S0 S.length)
  | .ro d S => .ro d (S0 S.length)
  | .bk S => .bk (setS S i .no)
  | .ct S => .ct (setS S i .no)
  | _ => .un
noncomputable def nTryE (l : List Str) (i : Nat) (b : FS) (h : Addr → Str → FS) : FS := fun S => match b S with
  | .ex c fs S1 => (match fs with
    | [] => if c ∈ l then allA fun a => goneO i (h a c (setS S1 i (.va (.ref a)))) else .un
    | _ => .un)
  | o => o
theorem Rel.all_no {ad : Nat → Addr} {M0 M : Mp} {S : Fs} {τ : Sd} (r : Rel ad M0 S τ M) : Rel ad M0 (S0 S.length) τ M := by
  refine ⟨by rw [r.len, S0, List.length_replicate], fun i d e => ?_, fun i t o e => ?_, fun i o e => ?_, fun i j a h1 => ?_, r.sub⟩ <;> rw [getS_S0] at * <;> first | cases e | exact nomatch h1
theorem gone_post {ad : Nat → Addr} {M0 : Mp} {i : Nat} {En : DEnds} : ∀ {o : Out}, postS K ad M0 (goneO i o) En → postS K ad M0 o (enE i En)
  | .nx S, q => fun τ M r => q _ M (r.set_no i none)
  | .rt d S, q => fun τ M r => q _ M r.all_no
  | .ro d S, q => fun τ M p r hp => q _ M p r.all_no hp
  | .bk S, q => fun τ M r => q _ M (r.set_no i none)
  | .ct S, q => fun τ M r => q _ M (r.set_no i none)
  | .ex _ _ _, q => q.elim
  | .un, q => q.elim
theorem sims_tryE {l : List Str} {i : Nat} {u : DS} {fu : FS} {ts : Addr → Str → DS} {h : Addr → Str → FS} (hu : SimS K u fu) (hh : ∀ a x, x ∈ l → SimS K (ts a x) (h a x)) : SimS K (sTryE K l i u ts) (nTryE l i fu h) := fun ad M0 S τ M En r q => by
  refine hu ad M0 S τ M { En with ex := caE K l i ts En } r ?_
  unfold nTryE at q
  cases e : fu S with
  | nx S1 => rw [e] at q; exact q
  | rt d S1 => rw [e] at q; exact q
  | ro d S1 => rw [e] at q; exact q
  | bk S1 => rw [e] at q; exact q
  | ct S1 => rw [e] at q; exact q
  | un => rw [e] at q; exact q
  | ex c fs S1 =>
    rw [e] at q
    dsimp only at q
    split at q
    · split at q
      · rename_i hc
        unfold allA at q
        split at q
        · rename_i ha
          intro τ1 M1 r1
          refine ⟨rfl, c, hc, rfl, fun a hM => hh a c hc ad M0 _ _ M1 _ (r1.set_va i (.ref a)) (gone_post ?_)⟩
          have ea := ha a
          dsimp only at ea q
          rw [ea]
          exact q
        · exact q.elim
      · exact q.elim
    · exact q.elim
/-! ### what a def makes of what the call does -/
def kOk (d : D) : DE := fun τ M Q E => Q d M
def kEx (c : Value) (fs : DFs) : DE := fun τ M Q E => E c fs M
def okE (d : D) : FE := fun S => .ok d S
def exE (c : Str) (fs : DFs) : FE := fun S => .ex c fs S
theorem sim_okE {d : D} : Sim K (kOk d) (okE d) := fun ad M0 S τ M Q E r q => q M r
theorem sim_exE {c : Str} {fs : DFs} : Sim K (kEx (cl K c) fs) (exE c fs) := fun ad M0 S τ M Q E r q => q M r
theorem rel0 {ad : Nat → Addr} {M : Mp} {τ : Sd} {n : Nat} (h : τ.length = n) : Rel ad M (S0 n) τ M := by
  refine ⟨by rw [h, S0, List.length_replicate], fun i d e => ?_, fun i t o e => ?_, fun i o e => ?_, fun i j a h1 => ?_, Sub.refl⟩ <;> rw [getS_S0] at * <;> first | cases e | exact nomatch h1
theorem word_rdE {u : DE → DS} {fu : FE → FS} {n : Nat} {τ0 τp : Sd} {f : Addr} {tld : Tl} {M : Mp} {Q : DK} {wo : D → Option D} {wx : Str → DFs → Option D} (mt : MonoTl tld)
    (hu : ∀ En, u (dAct f tld) En τ0 M = dAct f tld τp M (fun d M' => u (kOk d) En τ0 M') (fun c fs M' => u (kEx c fs) En τ0 M'))
    (h0 : getV τp 0 = some (.ref f)) (hn : τ0.length = n)
    (hs : ∀ te fe, Sim K te fe → SimS K (u te) (fu fe))
    (ho : ∀ d w, wo d = some w → ∃ S, fu (okE d) (S0 n) = .rt w S)
    (hx : ∀ x fs w, wx x fs = some w → ∃ S, fu (exE x fs) (S0 n) = .rt w S)
    (h : lamP K wo wx tld M Q) : u (dAct f tld) (endF Q fun _ _ _ => False) τ0 M := by
  obtain ⟨Q0, hq, ht⟩ := h
  rw [hu]
  refine ⟨h0, mt M _ _ _ _ (fun d M' z => ?_) (fun c fs M' ⟨x, ec, z⟩ => ?_) ht⟩
  · obtain ⟨w, ew, z⟩ := ok1_ex z
    obtain ⟨S, eS⟩ := ho d w ew
    refine hs _ _ (sim_okE (d := d)) (fun _ => 0) M' (S0 n) τ0 M' _ (rel0 hn) ?_
    rw [eS]
    exact fun τ M2 r => ⟨w, M', Cv.sub r.sub, hq _ _ z⟩
  · subst ec
    obtain ⟨w, ew, z⟩ := ok1_ex z
    obtain ⟨S, eS⟩ := hx x fs w ew
    refine hs _ _ (sim_exE (c := x) (fs := fs)) (fun _ => 0) M' (S0 n) τ0 M' _ (rel0 hn) ?_
    rw [eS]
    exact fun τ M2 r => ⟨w, M', Cv.sub r.sub, hq _ _ z⟩
end
section
variable {C : DC} {Ng : List Str} {x a : Str} {sg : Scope} {g : Addr} {cdv : Value} {bg : List Stmt} {TT : LamP}
theorem gives_ofF {q : Str} {tg : Addr → Tl → DS} (hr : Room 2 C.X.A) (nd : Ng.Nodup)
    (hbody : ∀ (f : Addr) (s : Shared) (H : Hp) (M : Mp) (c' : Addr) (tld : Tl), MonoTl tld → (∀ (H1 : Hp) (M1 : Mp) (Wd : DW) (W : WX) (pn : List (Addr × Obj)) (xe : Value → Shared → Prop) (tk : Takes ((gC C Ng x sg g cdv hr nd s H M c' q).X.tr pn xe) W) (po : PassesOwn (model C.X.prog C.X.w) (gC C Ng x sg g cdv hr nd s H M c' q).X.A (gC C Ng x sg g cdv hr nd s H M c' q).X.env xe) (hW : ∀ cls od σ H', LiftW C.X.K C.T H1 M1 Wd cls od σ H' → W cls od σ H') (p1 p2 : Pos),
        DPE (trC (gC C Ng x sg g cdv hr nd s H M c' q) H1 M1 Wd W pn xe tk po hW) (.Call (.Name a p1) [] [] p2) (dAct f tld)) → DPSs (gC C Ng x sg g cdv hr nd s H M c' q) bg (tg f tld))
    (hrd : ∀ (f : Addr) (tld : Tl) (M : Mp) (Q : DK), MonoTl tld → TT tld M Q → tg f tld (endF Q fun _ _ _ => False) (startD Ng [.ref f]) M) : GivesS C.X Ng x sg g cdv bg a q (ttH C.X.K C.T TT) := by
  intro f c' s H Q tl act hc ⟨M, tld, ab, tabs, mt, conv, hT⟩
  have mc : M c' = none := by
    cases e : M c' with
    | none => rfl
    | some o =>
      have z := ab c' o e
      cases o with
      | lst ds => obtain ⟨vs, e1, _⟩ := z; rw [hc] at e1; unfold LamX.CodeO at e1; cases e1
      | ins cl fs => obtain ⟨dx, gs, e1, _⟩ := z; rw [hc] at e1; unfold LamX.CodeO at e1; cases e1
      | priv => obtain ⟨vs, e1⟩ := z; rw [hc] at e1; unfold LamX.CodeO at e1; cases e1
      | kst ks => have e1 := (show _ = _ from z); rw [hc] at e1; unfold LamX.CodeO at e1; cases e1
      | rng lo hi => have e1 := (show _ = _ from z); rw [hc] at e1; exact (rng_code (Option.some.inj e1).symm rfl).elim
  have hd := hbody f s H M c' tld mt fun H1 M1 Wd W pn xe tk po hW p1 p2 => .of (mono_act mt) (act W pn xe p1 p2 tk) fun σ H' Qh ⟨τ, M', er, sr, h0, hq⟩ => by
    obtain ⟨v, e0, dn⟩ := er.2 0 _ (getV_get h0)
    simp only [Den] at dn
    subst dn
    exact ⟨e0, sr.cod.1.1, conv H' M' _ _ Qh _ ⟨sr.cod.2, sr.abs, sr.tab⟩ hq (fun v d H2 M2 g dn z => z v H2 g dn) fun cls od H2 ⟨fs, M2, ⟨k, a, t⟩, xd, w⟩ => hW cls od σ H2 ⟨τ, M2, fs, er.keep k, ⟨sr.keep.trans k, a, t⟩, xd, w⟩⟩
  refine ⟨_, hd.pss, startD Ng [.ref f], M, EnvR.start (DenL.cons (by simp only [Den]) DenL.nil), ⟨Keep.refl, ab, tabs, ⟨hc, mc⟩, Keep.refl⟩, ?_⟩
  refine hd.mono (endF (fun d M' => ∀ v H', GoK C.X.K C.T H M H' M' → Den C.X.K H' M' d v → Q v H') fun _ _ _ => False) _ _ M ⟨fun τ' M' ⟨N', sb, z⟩ σ' H' er g => z .non H' ⟨g.keep.trans (Keep.sub sb), g.abs.sub sb, g.tab⟩ (by simp only [Den]), fun d M' ⟨d', N', ⟨sb, cv⟩, z⟩ v H' g dn => z v H' ⟨g.keep.trans (Keep.sub sb), g.abs.sub sb, g.tab⟩ (cv _ H' v g.abs dn), fun _ _ z => z.elim, fun _ _ z => z.elim, fun _ _ _ _ ⟨_, _, z⟩ => z.elim⟩ (hrd f tld M _ mt hT)
end
end DL
namespace DL
open PySem PySem.Spec PyProof.Rows L2
theorem bb_ValueError : bootBuiltins "ValueError" = some (.type "ValueError") := by rfl
def outW : Out → Option D
  | .rt w _ => some w
  | _ => none
theorem outW_ok {o : Out} {w : D} (h : outW o = some w) : ∃ S, o = .rt w S := by
  cases o <;> simp [outW] at h
  subst h
  exact ⟨_, rfl⟩
end DL

/-! a, b = .. where one is a list of its own: as assignments one behind the other. -/
namespace DL
open PySem PySem.Spec PyProof.Rows L2
/-- does not look at slot i -/
def Ind (i : Nat) (te : DE) : Prop := ∀ (x : Option D) (τ : Sd) (M : Mp) (Q Q' : DK) (E E' : DX), (∀ d M', Q d M' → Q' d M') → (∀ c fs M', E c fs M' → E' c fs M') → te (setV τ i x) M Q E → te τ M Q' E'
def IndA (i : Nat) (t : DA) : Prop := ∀ (x : Option D) (τ : Sd) (M : Mp) (Q Q' : List D → Mp → Prop) (E E' : DX), (∀ d M', Q d M' → Q' d M') → (∀ c fs M', E c fs M' → E' c fs M') → t (setV τ i x) M Q E → t τ M Q' E'
section
variable {i j l : Nat} {ta tb te : DE} {t : DA}
theorem ind_c {d : D} : Ind i (dC d) := fun x τ M Q Q' E E' h he q => h d M q
theorem ind_var (h : i ≠ j) : Ind i (dVar j) := fun x τ M Q Q' E E' hq he q => by
  unfold dVar at q ⊢
  rw [getV_ne τ i j x h] at q
  exact ok1_mono (fun d => hq d M) q
theorem ind_op {f : O2} (a : Ind i ta) (b : Ind i tb) : Ind i (dOp f ta tb) := fun x τ M Q Q' E E' h he q => a x τ M _ _ _ _ (fun d M1 z => b x τ M1 _ _ _ _ (fun e M2 => ok1_mono fun z => h z M2) he z) he q
theorem ind_neg (a : Ind i ta) : Ind i (dNeg ta) := fun x τ M Q Q' E E' h he q => a x τ M _ _ _ _ (fun d M1 z => by
  revert z
  split
  · exact h _ _
  · exact id) he q
theorem inda_nil : IndA i dNil := fun x τ M Q Q' E E' h he q => h [] M q
theorem inda_cons (a : Ind i ta) (b : IndA i t) : IndA i (dCons ta t) := fun x τ M Q Q' E E' h he q => a x τ M _ _ _ _ (fun d M1 z => b x τ M1 _ _ _ _ (fun ds M2 => h (d :: ds) M2) he z) he q
theorem ind_tup (a : IndA i t) : Ind i (dTup t) := fun x τ M Q Q' E E' h he q => a x τ M _ _ _ _ (fun ds M1 z => ⟨z.1, h _ _ z.2⟩) he q
theorem ind_lst (a : IndA i t) : Ind i (dLst t) := fun x τ M Q Q' E E' h he q => a x τ M _ _ _ _ (fun ds M1 z => ⟨z.1, h _ _ z.2⟩) he q
theorem ind_lstM (a : IndA i t) : Ind i (dLstM t) := fun x τ M Q Q' E E' h he q => a x τ M _ _ _ _ (fun ds M1 z => ⟨z.1, fun p hp => h _ _ (z.2 p hp)⟩) he q
theorem ind_fn {g : OL} (a : IndA i t) : Ind i (dFn g t) := fun x τ M Q Q' E E' h he q => a x τ M _ _ _ _ (fun ds M1 => ok1_mono fun z => h z M1) he q
theorem ind_opM {f : O2} (a : Ind i ta) (b : Ind i tb) : Ind i (dOpM f ta tb) := fun x τ M Q Q' E E' h he q => a x τ M _ _ _ _ (fun d M1 z => b x τ M1 _ _ _ _ (fun e M2 ⟨xs, e, k⟩ => ⟨xs, e, fun p hp => h _ _ (k p hp)⟩) he z) he q
theorem ind_emp : Ind i dEmp := fun x τ M Q Q' E E' h he q => h _ _ q
theorem ind_rev {lo : Option Nat} (a : Ind i ta) : Ind i (dRev lo ta) := fun x τ M Q Q' E E' h he q => a x τ M _ _ _ _ (fun d M1 => ok1_mono fun z => h z M1) he q
theorem ind_call {sp : DSp} (m : MonoP sp) (a : IndA i t) : Ind i (dCall sp t) := fun x τ M Q Q' E E' h he q => a x τ M _ _ _ _ (fun ds M1 => m ds M1 _ _ _ _ h he) he q
/-- without raising -/
def nr (te : DE) : DE := fun τ M Q _ => te τ M Q fun _ _ _ => False
theorem par2_seq (h : Ind i tb) : ∀ (En : DEnds) (τ : Sd) (M : Mp), MonoE ta → sSeq (sAsg ta (gVar i)) (sAsg (nr tb) (gVar j)) En τ M → sPar i j (dCons ta (dCons tb dNil)) En τ M := fun En τ M m q =>
  m τ M _ _ _ _ (fun d M1 z => h (some d) τ M1 _ _ _ _ (fun e M2 w => w) (fun c fs M1 z => z.elim) z) (fun c fs M1 z => z) q
theorem par3_seq {tc : DE} (h : Ind i tb) (h2 : Ind i tc) (h3 : Ind j tc) : ∀ (En : DEnds) (τ : Sd) (M : Mp), MonoE ta → sSeq (sAsg ta (gVar i)) (sSeq (sAsg (nr tb) (gVar j)) (sAsg (nr tc) (gVar l))) En τ M → sPar3 i j l (dCons ta (dCons tb (dCons tc dNil))) En τ M := fun En τ M m q =>
  m τ M _ _ _ _ (fun d M1 z => h (some d) τ M1 _ _ _ _ (fun e M2 w => h2 (some d) τ M2 _ _ (fun _ _ _ => False) _ (fun e' M3 w' => w') (fun c fs M1 z => z.elim) (h3 (some e) (setV τ i (some d)) M2 _ _ _ (fun _ _ _ => False) (fun e' M3 w' => w') (fun c fs M1 z => z) w)) (fun c fs M1 z => z.elim) z) (fun c fs M1 z => z) q
end
section
variable {K : PySem.W.Frag} {i j l : Nat} {ta tb tc : DE} {f : FS}
theorem sims_par2O (h : Ind i tb) (m : MonoE ta) (s : SimS K (sSeq (sAsg ta (gVar i)) (sAsg (nr tb) (gVar j))) f) : SimS K (sPar i j (dCons ta (dCons tb dNil))) f := fun ad M0 S τ M En r q => par2_seq h En τ M m (s ad M0 S τ M En r q)
theorem sims_par3O (h : Ind i tb) (h2 : Ind i tc) (h3 : Ind j tc) (m : MonoE ta) (s : SimS K (sSeq (sAsg ta (gVar i)) (sSeq (sAsg (nr tb) (gVar j)) (sAsg (nr tc) (gVar l)))) f) : SimS K (sPar3 i j l (dCons ta (dCons tb (dCons tc dNil)))) f := fun ad M0 S τ M En r q => par3_seq h h2 h3 En τ M m (s ad M0 S τ M En r q)
/-- .. told by a tuple that is taken apart -/
theorem sims_asg2O (h : Ind i tb) (m : MonoE ta) (s : SimS K (sSeq (sAsg ta (gVar i)) (sAsg (nr tb) (gVar j))) f) : SimS K (sAsg (dTup (dCons ta (dCons tb dNil))) (gTup 2 (gCons (gVar i) (gCons (gVar j) gNil)))) f := fun ad M0 S τ M En r q => by
  refine m τ M _ _ _ _ (fun d M1 z => ?_) (fun c fs M1 z => z) (s ad M0 S τ M En r q)
  exact h (some d) τ M1 _ _ _ _ (fun e M2 w => ⟨(by unfold sizeLine; decide : (2 : Nat) ≤ sizeLine), rfl, w⟩) (fun c fs M1 z => z.elim) z
theorem sims_asg3O (h : Ind i tb) (h2 : Ind i tc) (h3 : Ind j tc) (m : MonoE ta) (s : SimS K (sSeq (sAsg ta (gVar i)) (sSeq (sAsg (nr tb) (gVar j)) (sAsg (nr tc) (gVar l)))) f) : SimS K (sAsg (dTup (dCons ta (dCons tb (dCons tc dNil)))) (gTup 3 (gCons (gVar i) (gCons (gVar j) (gCons (gVar l) gNil))))) f := fun ad M0 S τ M En r q => by
  refine m τ M _ _ _ _ (fun d M1 z => ?_) (fun c fs M1 z => z) (s ad M0 S τ M En r q)
  refine h (some d) τ M1 _ _ _ _ (fun e M2 w => ?_) (fun c fs M1 z => z.elim) z
  exact h2 (some d) τ M2 _ _ (fun _ _ _ => False) _ (fun e' M3 w' => ⟨(by unfold sizeLine; decide : (3 : Nat) ≤ sizeLine), rfl, w'⟩) (fun c fs M1 z => z.elim) (h3 (some e) (setV τ i (some d)) M2 _ _ _ (fun _ _ _ => False) (fun e' M3 w' => w') (fun c fs M1 z => z) w)
def fNr {α : Type} (f : Fs → R α) : Fs → R α := fun S => match f S with
  | .ok d S1 => .ok d S1
  | _ => .un
theorem sim_nr {t : DE} {f : FE} (h : Sim K t f) : Sim K (nr t) (fNr f) := fun ad M0 S τ M Q E r q => by
  refine h ad M0 S τ M Q _ r ?_
  unfold fNr at q
  cases e : f S with
  | ok d S1 => rw [e] at q; exact q
  | ex c fs S1 => rw [e] at q; exact q.elim
  | un => rw [e] at q; exact q
theorem simo_nr {t : DE} {f : FI} (h : SimO K t f) : SimO K (nr t) (fNr f) := fun ad M0 S τ M Q E r q => by
  refine h ad M0 S τ M Q _ r ?_
  unfold fNr at q
  cases e : f S with
  | ok d S1 => rw [e] at q; exact q
  | ex c fs S1 => rw [e] at q; exact q.elim
  | un => rw [e] at q; exact q
/-! d[lo::-1] -/
def fRev (lo : Option Nat) (a : FV) : FE := fun S => (a S).bind fun v S1 => R.opt (look S1 v) fun d => R.of (revD Mn lo d) S1
theorem revD_vw {M : Mp} {lo : Option Nat} {x x' z : D} (h : Vw M x x') (e : revD Mn lo x' = some z) : revD M lo x = some z := by
  by_cases ht : ∃ xs, x' = .tup xs
  · obtain ⟨xs, rfl⟩ := ht
    rcases h with rfl | ⟨a, ys, rfl, hM, h3⟩
    · exact e
    · cases h3
  · have e' : lo = none ∧ ∃ xs, itemsL Mn x' = some xs ∧ z = .lst xs.reverse := by
      cases x' <;> cases lo <;> simp only [revD, reduceCtorEq, Option.map_eq_some_iff] at e <;> first | exact absurd ⟨_, rfl⟩ ht | (obtain ⟨xs, e1, rfl⟩ := e; exact ⟨rfl, xs, e1, rfl⟩)
    obtain ⟨rfl, xs, ex, rfl⟩ := e'
    have e2 := itemsL_vw h ex
    cases x <;> first | (simp only [revD]; rw [e2]; rfl) | (simp [itemsL] at e2)
theorem sim_rev {va : FV} {lo : Option Nat} (h : SimV K ta va) : Sim K (dRev lo ta) (fRev lo va) := fun ad M0 S τ M Q E r q =>
  h ad M0 S τ M _ E r (q.bind fun v S1 M1 r1 q1 d hd => by
    obtain ⟨x, ex, q1⟩ := q1.opt
    obtain ⟨z, ez, q1⟩ := q1.of
    exact ok1_of (revD_vw (r1.look hd ex) ez) (q1 M1 r1))
/-! zip of any two -/
def fZip2 (a : FVs) : FI := fun S => (a S).bind fun vs S1 => match vs with
  | [v, w] => R.opt (src S1 v) fun xs => R.opt (src S1 w) fun ys => .ok (pairs xs ys) S1
  | _ => .un
theorem simi_zip2 {t : DA} {vs : FVs} (h : SimVs K t vs) : SimI K (iZip2 t) (fZip2 vs) := fun ad M0 S τ M Q E r q =>
  h ad M0 S τ M _ E r (q.bind fun ws S1 M1 r1 q1 ds hds => by
    split at q1
    · obtain ⟨e1, q1', rfl, h1, e2, q2', rfl, h2, rfl⟩ := hds
      obtain ⟨xs, exs, q1⟩ := q1.opt
      obtain ⟨ys, eys, q1⟩ := q1.opt
      obtain ⟨i1, o1⟩ := r1.src h1 exs
      obtain ⟨i2, o2⟩ := r1.src h2 eys
      exact ok1_of i1 (ok1_of i2 (q1 M1 r1 _ fun N hN => ⟨o1 N hN, o2 N hN⟩))
    · exact q1.elim)
end
end DL

/-! A dict of one's own whose keys are tuples of ints, each with True: {}, d[(i, j)] = True, sorted(d). -/
namespace DL
open PySem PySem.Spec PyProof.Rows L2
def kstPut (ks : List (List Int)) (k : List Int) : List (List Int) := if k ∈ ks then ks else ks ++ [k]
theorem inl_inj : ∀ {a b : List Int}, a.map (Sum.inl : Int → Key) = b.map Sum.inl → a = b
  | [], [], _ => rfl
  | [], _ :: _, h => by simp at h
  | _ :: _, [], h => by simp at h
  | a :: as, b :: bs, h => by
    simp only [List.map_cons, List.cons.injEq, Sum.inl.injEq] at h
    rw [h.1, inl_inj h.2]
theorem putK_kst (ks : List (List Int)) (k : List Int) : putK (ks.map kstV) (k.map Sum.inl) (V.bl true) = (kstPut ks k).map kstV := by
  unfold putK kstPut
  have ha : ((ks.map kstV).any fun kv => decide (kv.1 = k.map Sum.inl)) = decide (k ∈ ks) := by
    rw [Bool.eq_iff_iff]
    simp only [List.any_map, List.any_eq_true, Function.comp, kstV, decide_eq_true_eq]
    constructor
    · rintro ⟨k', hm, e⟩
      rw [← inl_inj (of_decide_eq_true e)]; exact hm
    · exact fun hm => ⟨k, hm, decide_eq_true rfl⟩
  rw [ha]
  by_cases h : k ∈ ks
  · rw [if_pos (decide_eq_true h), if_pos h, List.map_map]
    refine List.map_congr_left fun a _ => ?_
    simp only [Function.comp, kstV]
    exact ite_self _
  · rw [if_neg (by simpa using h), if_neg h, List.map_append]
    rfl
theorem TabsUpdT {H : Hp} {T : List (Addr × Str)} {p : Addr} {o : HO} {kvs : List (List Key × V)} (t : LamX.Tabs T H) (hp : H p = some (.dT kvs)) (ho : ∀ ps, o ≠ .tbl ps) : LamX.Tabs T (upd H p o) := fun q hq => by
  obtain ⟨ps, h1, h2, h3⟩ := t q hq
  have ne : ∀ b u, H b = some u → (∀ vs, u ≠ .dT vs) → b ≠ p := fun b u e n z => by
    rw [z, hp] at e
    cases e
    exact n _ rfl
  refine ⟨ps, by rw [upd_ne (ne _ _ h1 fun _ z => nomatch z)]; exact h1, h2, fun pos cv hc => ?_⟩
  obtain ⟨c, e1, e2⟩ := h3 pos cv hc
  exact ⟨c, e1, by rw [upd_ne (ne _ _ e2 fun vs z => by unfold LamX.CodeO at z; cases z)]; exact e2⟩
/-! ### {} -/
def dKNew : DE := fun _ M Q _ => ∀ p, M p = none → Q (.ref p) (put M p (.kst []))
theorem mono_knew : MonoE dKNew := fun τ M Q Q' E E' h he q => fun p hp => h _ _ (q p hp)
/-! ### d[(i, j)] = True -/
def gKst (to : DE) (t : DA) : DG := fun d τ M Q => to τ M (fun o M1 => t τ M1 (fun ds M2 => d = .bl true ∧ ds.length ≤ sizeLine ∧ ∃ p ks k, o = .ref p ∧ M2 p = some (.kst ks) ∧ ds = k.map D.int ∧ ks.length < sizeLine ∧ Q τ (put M2 p (.kst (kstPut ks k)))) fun _ _ _ => False) fun _ _ _ => False
theorem monoG_kst {to : DE} {t : DA} (m : MonoE to) (n : MonoA t) : MonoG (gKst to t) := fun d τ M Q Q' h q =>
  m τ M _ _ _ _ (fun o M1 => n τ M1 _ _ _ _ (fun ds M2 ⟨a, b, p, ks, k, e1, e2, e3, e4, q⟩ => ⟨a, b, p, ks, k, e1, e2, e3, e4, h _ _ q⟩) (fun _ _ _ z => z)) (fun _ _ _ z => z) q
/-! ### sorted(d) -/
def gSortK : OL := fun ds M => match ds with
  | [.ref a] => (match M a with
    | some (.kst ks) => gSorted [.lst (ks.map tupI)] M
    | _ => none)
  | _ => none
section
variable {prog : Program} {w : World} {A : Around} {E : Value → Shared → Prop} {s : Shared} {T : String} {r d : Addr} {n : Nat} {P : Nat → Value → Prop} {OK : Heap → Prop}
/-- what stands in the list that collect fills, and where it ends -/
def ColP (P : Nat → Value → Prop) (s : Shared) (n : Nat) (q : Result) (s' : Shared) : Prop := ∃ (h' : Heap) (tk : Nat) (acc : Array Value) (c : Nat), q = .ok (.ret (.ref s.heap.objs.size)) ∧ s' = { s with heap := h', toks := tk } ∧
  (∀ b o, s.heap.get? b = some o → h'.get? b = some o) ∧ h'.get? s.heap.objs.size = some { cls := .type "list", dict := none, data := .seq acc c, slots := #[] } ∧ ItemsOf P acc n
/-- collect over a source of the kit; the heap grows -/
theorem collect_src {R : List Value → Shared → Prop} (K : PySem.W.KdlSrc prog w T r d n P OK) (hh : A.handled = none) (hok : OK s.heap) (hn : n ≤ sizeLine)
    (h : ∀ (h' : Heap) (tk : Nat) (acc : Array Value), (∀ b o, s.heap.get? b = some o → h'.get? b = some o) → s.heap.objs.size < h'.objs.size → ItemsOf P acc n → R acc.toList { s with heap := h', toks := tk }) :
    wpAny (model prog w) A (collect (.ref r)) R E s := by
  have lr := K.there _ hok
  have up : ∀ b o, s.heap.get? b = some o → (s.heap.push { cls := .type "list", data := .seq ([] : List Value).toArray }).get? b = some o := fun _ _ e => Heap.get?_push_of_some _ e
  unfold collect
  refine wpAny_bind (wpAny_runValue (codeAny_builtin entry_proto_collect' ?_))
  rw [Around.under_plainId PySem.F.plain_proto_collect _]
  show wpAny _ A.in1 (newList [] >>= fun l => again (.builtin "list.__iadd__" ⟨[l, .ref r], []⟩)) _ _ s
  refine wpAny_bind (wpAny_newObj_type (wpAny_pure ⟨plainId_quiet PySem.F.plain_list_iadd _, codeAny_builtin entry_list_iadd' ?_⟩))
  rw [Around.under_plainId PySem.F.plain_list_iadd _]
  show wpAny _ A.in1 (Builtin.List.listExtendWith (.ref s.heap.objs.size) (.ref r) (.ref s.heap.objs.size)) _ _ _
  refine wpAny_mono (PySem.W.kdl_extend (A := A) (s := { s with heap := s.heap.push { cls := .type "list", data := .seq ([] : List Value).toArray } }) (R := ColP P s n) K hh (K.keep _ _ hok fun b _ o e => up b o e) s.heap.objs.size (Nat.ne_of_gt lr.1) (Nat.ne_of_gt lr.2) (.ref s.heap.objs.size) 0 (Heap.get?_push_size _ rfl)
    (fun h' tk acc c hk hS it => ⟨h', tk, acc, c, rfl, rfl, fun b o e => hk b o (Nat.ne_of_lt (Heap.lt_size e)) (up b o e), hS, it⟩) hn) (fun f s' x => ?_) (fun e s' x => ?_)
  · cases f with
    | done f =>
      obtain ⟨h', tk, acc, c, e1, rfl, hk, hS, it⟩ := x
      cases e1
      exact wpAny_bind (wpAny_load hS (wpAny_pure (h h' tk acc hk (Heap.lt_size hS) it)))
    | again c1 =>
      refine ⟨x.1, codeAny_mono x.2 fun q s2 y => ?_⟩
      obtain ⟨h', tk, acc, c, rfl, rfl, hk, hS, it⟩ := y
      exact wpAny_bind (wpAny_load hS (wpAny_pure (h h' tk acc hk (Heap.lt_size hS) it)))
  · obtain ⟨_, _, _, _, e1, _⟩ := x
    cases e1
end
section
variable {C : DC}
theorem de_knew : DPE C (.Dict [] [] pos) dKNew := ⟨mono_knew, fun pins s σ H τ M Q I er sr q => by
  have hf : H s.heap.objs.size = none := I.hok.fresh (Nat.le_refl _)
  have g : Go C H M (upd H s.heap.objs.size (.dT [])) (put M s.heap.objs.size (.kst [])) := ⟨Keep.mut sr.abs hf, sr.abs.at (Keep.mut sr.abs hf) (fun b hb _ => upd_ne hb) upd_same, TabsUpd sr.tab (.inl hf) fun _ z => nomatch z⟩
  exact wpAny_Dict_empty ⟨.ref s.heap.objs.size, _, .ref s.heap.objs.size, _, I.laid (a := s.heap.objs.size) (o := .dT []) (t' := s.toks) (fun _ _ q => Heap.get?_push_of_some _ q) (Nat.le_refl _) (dt_empty s.heap I.big), rfl, g, by simp only [Den], q _ (sr.abs.free hf)⟩⟩
theorem write_kst {H : Hp} {M : Mp} {p : Addr} {ks ls : List (List Int)} (sr : SR C H M) (hM : M p = some (.kst ks)) : Go C H M (upd H p (.dT (ls.map kstV))) (put M p (.kst ls)) :=
  ⟨Keep.write hM (fun z => nomatch z), sr.abs.at (Keep.write hM (fun z => nomatch z)) (fun b hb _ => upd_ne hb) upd_same, TabsUpdT sr.tab (sr.abs p _ hM) fun _ z => nomatch z⟩
theorem dg_kst {o : Expr} {es : List Expr} {kk : Nat} {tpos pos : Pos} {to : DE} {t : DA} (ho : DPE C o to) (hi : DPA C es t) (ha : ∀ v, assign (.Subscript o (.Tuple es kk tpos) pos) C.X.env v = (do
      let ov ← holding [v] (eval o C.X.env)
      let iv ← holding [v, ov] (eval (.Tuple es kk tpos) C.X.env)
      standAt pos
      holding [v, ov, iv] (setItem ov iv v)
      release [v, ov, iv] []) := by intro _; rfl) : DPG C (.Subscript o (.Tuple es kk tpos) pos) (gKst to t) :=
  ⟨monoG_kst ho.mono hi.mono, fun pins s σ H τ M d v u Q I er sr r dn q => by
  rw [ha]
  refine wpAny_bind (wpAny_holding (thn (ho.go pins s σ H τ M _ I er sr (ho.mono _ _ _ _ _ _ (fun _ _ z => z) (fun _ _ _ z => z.elim) q)) fun ov s1 ⟨x1, H1, d1, M1, I1, r1, g1, dn1, q1⟩ => ?_))
  refine wpAny_bind (wpAny_holding (wpAny_Tuple_spliced (thn (hi.go tpos pins s1 σ H1 τ M1 _ I1 (er.keep g1.keep) (sr.go g1) (hi.mono _ _ _ _ _ _ (fun _ _ z => z) (fun _ _ _ z => z.elim) q1)) fun us s2 ⟨xs, H2, ds, M2, I2, rv, g2, l, ed, z, p, ks, k, eo, hM, eds, hl, q2⟩ => ⟨by rw [← rv.length, l.length]; exact z, ?_⟩)))
  subst ed eo eds
  simp only [Den] at dn dn1
  subst dn dn1
  have sr2 := (sr.go g1).go g2
  have hf : H2 s2.heap.objs.size = none := I2.hok.fresh (Nat.le_refl _)
  have exs := den_ints l
  subst exs
  have g3 : Go C H2 M2 (upd H2 s2.heap.objs.size (.tup (k.map V.int))) M2 := Go.new sr2 hf fun _ z => nomatch z
  have sr3 := sr2.go g3
  have hH := sr3.abs p _ hM
  have g4 := write_kst (ls := kstPut ks k) sr3 hM
  have I3 : Inv C.X pins σ (upd H2 s2.heap.objs.size (.tup (k.map V.int))) { s2 with heap := s2.heap.push { cls := .type "tuple", data := .seq us.toArray } } :=
    I2.laid (t' := s2.toks) (fun b u e => Heap.get?_push_of_some _ e) (Nat.le_refl _) ⟨by simpa using z, us, rv, ⟨_, Heap.get?_push_size _ rfl, rfl, _, rfl⟩⟩
  have hk : (k.map V.int) = (k.map (Sum.inl : Int → Key)).map kV := by rw [List.map_map]; rfl
  have put := DPut.t (v := V.bl true) hH (show (upd H2 s2.heap.objs.size (.tup (k.map V.int))) s2.heap.objs.size = some (.tup ((k.map (Sum.inl : Int → Key)).map kV)) by rw [upd_same, hk]) (by simpa using hl)
  rw [putK_kst] at put
  cases r1
  refine wpAny_bind (wpAny_standAt (wpAny_bind (wpAny_holding (d_setItem (by have := C.un64; omega) I3 put rfl r fun s3 I4 => ?_))))
  exact wpAny_release ⟨σ, _, τ, _, I4, er.keep (((g1.trans g2).trans g3).trans g4).keep, ((g1.trans g2).trans g3).trans g4, q2⟩⟩
theorem paired_at {α β : Type} {R : α → β → Prop} : ∀ {as : List α} {bs : List β}, Paired R as bs → ∀ {i : Nat} {a : α} {b : β}, as[i]? = some a → bs[i]? = some b → R a b
  | _, _, .nil, i, _, _, h, _ => by simp at h
  | _, _, .cons h t, 0, a, b, h1, h2 => by
    simp at h1 h2
    subst h1 h2
    exact h
  | _, _, .cons h t, i + 1, a, b, h1, h2 => paired_at t (i := i) (by simpa using h1) (by simpa using h2)
theorem reads_ints {h : Heap} : ∀ {k : List Int} {its : List Value}, Vals (k.map V.int) its → ReadsAll h its (pyTs (k.map D.int)) []
  | [], _, .nil => .nil
  | n :: k, _, .cons r t => by
    obtain ⟨t', rfl⟩ := r
    simp only [List.map_cons, pyTs, pyT]
    exact .cons (.int n t') (reads_ints t)
theorem cl_sortedK (hc : C.X.calm = true) : DCl C (.builtin "sorted") gSortK := fun pins s σ H M xs us ds z I sr rv l ez => by
  unfold gSortK at ez
  split at ez
  · rename_i a
    split at ez
    · rename_i ks hM
      have e0 : gSorted [.lst (ks.map tupI)] M = (if ((ks.map tupI).all (shp 60) && alikeB (ks.map tupI) && sortB (ks.map tupI)) = true then some (.lst ((ks.map tupI).mergeSort dle)) else none) := rfl
      rw [e0] at ez
      split at ez <;> cases ez
      rename_i hB
      simp only [Bool.and_eq_true] at hB
      obtain ⟨⟨hsh, hal⟩, hso⟩ := hB
      obtain ⟨v, rfl, dn⟩ := l.one
      simp only [Den] at dn
      subst dn
      obtain ⟨u, rfl, ru⟩ := rv.one
      cases ru
      have hH : H a = some (.dT (ks.map kstV)) := sr.abs a _ hM
      obtain ⟨z, lo, kx, pr, o, es, ep, ho, hx, hdt, he, hn⟩ := (show ObjOk C.X.prog C.X.w H s.heap a (.dT (ks.map kstV)) from I.hok a _ hH)
      have l1 : es.size = kx.length := size_of_entries he
      have l2 : (ks.map kstV).length = kx.length := Paired.length pr
      have l3 : ks.length = kx.length := by simpa using l2
      have z' : ks.length ≤ sizeLine := by simpa using z
      refine Calls.call_function_entry kind_sorted plain_sorted entry_sorted (args_sorted1 _) ?_
      unfold Builtin.«sorted»
      refine wpAny_bind (m := checkCount "sorted" 1 1 _) (wpAny_pure ?_)
      refine wpAny_bind (collect_src (A := C.X.A.in1) (kdl_raw lo hx hdt) (I.ok.hd hc) ho (by omega) fun h' tk acc hk hsz it => ?_)
      have ea : acc.toList = kx.map fun x => Value.ref x.2.1 := by
        have hl : acc.toList.length = kx.length := by rw [Array.length_toList, it.1]; exact l1
        apply List.ext_getElem?
        intro j
        rw [List.getElem?_map]
        cases hj : acc.toList[j]? with
        | none =>
          have h1 := List.getElem?_eq_none_iff.mp hj
          rw [List.getElem?_eq_none (by omega)]
          all_goals rfl
        | some v =>
          obtain ⟨en, hen, hv⟩ := it.2 j v (by rw [← Array.getElem?_toList]; exact hj)
          have qe := entry_at he j
          rw [hen] at qe
          cases hb : kx[j]? with
          | none =>
            rw [hb] at qe
            exact nomatch (show some en = none from qe)
          | some b =>
            rw [hb] at qe
            have e2 : en = entryOfKey (tupleKind (mixKind C.X.prog C.X.w)) b := Option.some.inj qe
            rw [hv, e2]
            all_goals rfl
      have hlen : acc.toList.length = ks.length := by rw [ea, List.length_map, l3]
      refine wpAny_bind (wpAny_newList ?_ (by rw [hlen]; exact z'))
      have ho' : (h'.push { cls := .type "list", data := .seq acc.toList.toArray }).get? h'.objs.size = some (seqObj "list" acc.toList.toArray 0) := Heap.get?_push_size _ rfl
      have up : ∀ b o, s.heap.get? b = some o → (h'.push { cls := .type "list", data := .seq acc.toList.toArray }).get? b = some o := fun b o e => Heap.get?_push_of_some _ (hk b o e)
      have fact : ∀ (j : Nat) (d : D) (u : Value), (ks.map tupI)[j]? = some d → acc.toList[j]? = some u → ∃ k b, k ∈ ks ∧ d = tupI k ∧ u = .ref b ∧ H b = some (.tup (k.map V.int)) := fun j d u h1 h2 => by
        rw [ea, List.getElem?_map] at h2
        obtain ⟨x, hx, rfl⟩ := Option.map_eq_some_iff.mp h2
        rw [List.getElem?_map] at h1
        obtain ⟨k, hk, rfl⟩ := Option.map_eq_some_iff.mp h1
        have q := paired_at pr (i := j) (a := kstV k) (b := x) (by rw [List.getElem?_map, hk]; rfl) hx
        refine ⟨k, x.2.1, List.mem_of_getElem? hk, rfl, rfl, ?_⟩
        rw [q.2.1]
        simp only [kstV, List.map_map]
        rfl
      have sh := List.all_eq_true.mp hsh
      have hR : PySem.W.EachIs (fun u d => ∃ v, RelV v u ∧ Den C.X.K H M d v) acc.toList (ks.map tupI) := each_of (by rw [hlen, List.length_map]) fun j d u h1 h2 => by
        obtain ⟨k, b, _, rfl, rfl, hb⟩ := fact j d u h1 h2
        refine ⟨.ref b, rfl, ?_⟩
        simp only [tupI, Den]
        refine ⟨b, _, rfl, .inl ⟨?_, .inl hb⟩, ints_den k⟩
        cases e : M b with
        | none => rfl
        | some o =>
          obtain ⟨u, e1, mu⟩ := (sr.abs b o e).there
          rw [hb] at e1
          cases e1
          exact mu.elim
      have hr : PySem.W.EachIs (fun v d => ∃ as, Reads (h'.push { cls := .type "list", data := .seq acc.toList.toArray }) v (pyT d) as ∧ h'.objs.size ∉ as) acc.toList (ks.map tupI) := each_of (by rw [hlen, List.length_map]) fun j d u h1 h2 => by
        obtain ⟨k, b, _, rfl, rfl, hb⟩ := fact j d u h1 h2
        obtain ⟨_, its, rvi, o2, ho2, hc2, n2, hd2⟩ := (show ObjOk C.X.prog C.X.w H s.heap b (.tup (k.map V.int)) from I.hok b _ hb)
        refine ⟨[], ?_, by simp⟩
        simp only [tupI, pyT]
        exact .tuple (up _ _ ho2) hc2 hd2 (by simpa using reads_ints rvi)
      refine wpAny_bind (wpAny_holding (wpAny_mono (PySem.W.list_sort_data (bs := ks.map tupI) (enc := pyT) (R := fun u d => ∃ v, RelV v u ∧ Den C.X.K H M d v) (vs := acc.toList) (Q := fun v s' => ∃ out : List Value, out.length = ks.length ∧ PySem.W.EachIs (fun u d => ∃ v, RelV v u ∧ Den C.X.K H M d v) out ((ks.map tupI).mergeSort dle) ∧ s' = { s with heap := sortedHeap (h'.push { cls := .type "list", data := .seq acc.toList.toArray }) h'.objs.size acc.toList out.toArray, toks := tk }) ho' hR hr ?_ ?_ (by rw [List.length_map]; exact z') (fun b hb => ?_) fun out hout hE => ⟨out, by rw [hout, List.length_map], hE, rfl⟩) (fun _ s' x => ?_) fun _ _ e => e))
      · intro d1 h1 d2 h2
        obtain ⟨a1, m1, rfl⟩ := List.mem_map.mp h1
        obtain ⟨a2, m2, rfl⟩ := List.mem_map.mp h2
        exact List.all_eq_true.mp (List.all_eq_true.mp hal a1 m1) a2 m2
      · unfold sortB at hso
        rcases Bool.or_eq_true_iff.mp hso with h' | h'
        · refine .inl fun d hd => ?_
          obtain ⟨a1, m1, rfl⟩ := List.mem_map.mp hd
          have := List.all_eq_true.mp h' a1 m1
          split at this
          · simp only [pyT, pyTs]; exact ⟨_, _, rfl⟩
          · cases this
        · refine .inr fun d hd => ?_
          obtain ⟨a1, m1, rfl⟩ := List.mem_map.mp hd
          have := List.all_eq_true.mp h' a1 m1
          have hs := sh a1 m1
          cases a1 <;> simp only [Bool.false_eq_true] at this <;> simp [pyT, shp] at hs ⊢
      · have h1 := (shp_shaped (sh b hb)).2
        have h2 := C.un
        show C.X.A.units + 1 + 1 + (pyT b).depth < cLine
        omega
      · obtain ⟨out, ho1, hE, rfl⟩ := x
        obtain ⟨ws, rw', lw⟩ := each_out hE
        have hws : ws.length ≤ sizeLine := by rw [lw.length, List.length_mergeSort, List.length_map]; exact z'
        obtain ⟨c, hc'⟩ := sortedHeap_at (out := out.toArray) ho'
        have hp : H h'.objs.size = none := I.hok.fresh (Nat.le_of_lt hsz)
        obtain ⟨g, dz⟩ := new_lst (xs := ws) sr hp lw
        refine wpAny_pure ⟨_, rfl, .ref h'.objs.size, _, _, M, I.laid (a := h'.objs.size) (o := .lst ws) (t' := tk) (fun b u e => ?_) (Nat.le_of_lt hsz) ⟨hws, out, c, rw', hc'⟩, rfl, g, dz, rfl, rfl⟩
        have hlt := Heap.lt_size (hk b u e)
        rw [sortedHeap_old (Nat.ne_of_lt hlt) (by rw [Heap.size_push]; exact Nat.lt_succ_of_lt hlt)]
        exact up b u e
    · cases ez
  · cases ez
end
end DL

/-! A range object in a name: x = range(a, b), walked later. -/
namespace DL
open PySem PySem.Spec PyProof.Rows L2
def dRngO (t : DA) : DE := fun τ M Q E => t τ M (fun ds M1 => match ds with
  | [.int i, .int j] => ∀ p, M1 p = none → Q (.ref p) (put M1 p (.rng i j))
  | _ => False) E
theorem mono_rngO {t : DA} (m : MonoA t) : MonoE (dRngO t) := fun τ M Q Q' E E' h he q => m τ M _ _ _ _ (fun ds M1 z => by
  revert z
  split
  · exact fun z p hp => h _ _ (z p hp)
  · exact id) he q
def iRngV (i : Nat) : DI := fun τ M Q E => ok1 (getV τ i) fun d => ∃ p lo hi, d = .ref p ∧ M p = some (.rng lo hi) ∧ (-4000000000000000000 ≤ lo ∧ lo ≤ 4000000000000000000 ∧ -4000000000000000000 ≤ hi ∧ hi ≤ 4000000000000000000 ∧ hi - lo ≤ 16777216) ∧ Q (rangeD lo (hi - lo).toNat) (fun _ => True) M
theorem monoI_rngV {i : Nat} : MonoI (iRngV i) := fun τ M Q Q' E E' h he q => ok1_mono (fun d ⟨p, lo, hi, a, b, c, z⟩ => ⟨p, lo, hi, a, b, c, h _ _ _ z⟩) q
section
variable {X : Cx}
theorem cr_rangeX : CallR X (.type "range") (fun vs H Q => ∃ i j, vs = [V.int i, V.int j] ∧ ∀ p, H p = none → Q (.ref p) (upd H p (rngO p i j))) := by
  intro pins s σ H vs us Q I r h
  obtain ⟨i, j, rfl, q⟩ := h
  obtain ⟨u1, u2, rfl, ⟨t, rfl⟩, ⟨u, rfl⟩⟩ := vals2 r
  have hn : H s.heap.objs.size = none := I.hok.fresh (Nat.le_refl _)
  have at0 : (s.heap.push { cls := .type "range", data := .fields #[.int i t, .int j u, .int 1 s.toks] }).get? s.heap.objs.size = some { cls := .type "range", data := .fields #[.int i t, .int j u, .int 1 s.toks] } := Heap.get?_push_size _ rfl
  refine call_range_2 ⟨.ref s.heap.objs.size, upd H s.heap.objs.size (rngO s.heap.objs.size i j), I.laid (t' := s.toks + 1) (fun b o e => Heap.get?_push_of_some _ e) (Nat.le_refl _) ?_, rfl, q _ hn⟩
  exact ⟨⟨t, u, s.toks, at0⟩, ⟨_, at0⟩, fun h1 h2 ⟨t, u, v, e⟩ k => ⟨t, u, v, k _ e⟩⟩
variable {C : DC} {a b : Expr} {p pos : Pos}
theorem de_rngO {t : DA} (hg : Gl C.X "range") (hm : C.X.mg "range" = none) (ha : DPA C [a, b] t) (hs : starEach [a, b] C.X.env = (false, eval a C.X.env) :: starEach [b] C.X.env := by rfl) (hpl : (backTo pos (starEach [b] C.X.env)).any (·.1) = false := by rfl) :
    DPE C (.Call (.Name "range" p) [a, b] [] pos) (dRngO t) := by
  refine .of (mono_rngO ha.mono) (pe_callTy cr_rangeX hg hm (by decide +kernel) ha.pa (by decide) (by decide) hs hpl) fun σ H Q ⟨τ, M, er, sr, q⟩ => ?_
  refine ⟨τ, M, er, sr, ha.mono _ _ _ _ _ _ (fun ds M1 z vs H1 g l => ?_) (fun _ _ _ z => z) q⟩
  revert z
  split
  · rename_i i j
    intro z
    obtain ⟨v, w, rfl, dn, dn2⟩ := l.two
    simp only [Den] at dn dn2
    subst dn; subst dn2
    refine ⟨i, j, rfl, fun p hp => ?_⟩
    have sr1 := sr.go g
    have g2 : Go C H1 M1 (upd H1 p (rngO p i j)) (put M1 p (.rng i j)) := ⟨Keep.mut sr1.abs hp, sr1.abs.at (Keep.mut sr1.abs hp) (fun b hb _ => upd_ne hb) upd_same, TabsUpd sr1.tab (.inl hp) fun _ z => by unfold rngO at z; cases z⟩
    exact z p (sr1.abs.free hp) _ _ (g.trans g2) (by simp only [Den])
  · exact fun z => z.elim
theorem di_rngV {tg : Expr} {x : Str} (i : Nat) (he : DPE C (.Name x pos) (dVar i)) : DPI C tg (.Name x pos) (iRngV i) := ⟨monoI_rngV, fun pins s σ H τ M Q I er sr q => by
  obtain ⟨d, ed, p, lo, hi, rfl, hM, ⟨b1, b2, b3, b4, b5⟩, q⟩ := ok1_ex q
  refine thn (he.go pins s σ H τ M (fun d' M' => d' = .ref p ∧ M' = M) I er sr (ok1_of ed ⟨rfl, rfl⟩)) fun v s1 ⟨x1, H1, d1, M1, I1, r1, g1, dn1, e1, e2⟩ => ?_
  subst e1 e2
  simp only [Den] at dn1
  subst dn1
  cases r1
  have hH := g1.abs p _ hM
  have ⟨⟨t, u, w, at0⟩, _⟩ := (show ObjOk C.X.prog C.X.w H1 s1.heap p (rngO p lo hi) from I1.hok p _ hH)
  refine wpAny_pyIter_range at0 (small_one (by omega) (by omega) (by omega) (by omega)) ?_
  refine ⟨s1.heap.objs.size, [s1.heap.objs.size], _, Itr lo (hi - lo).toNat, H1, rangeD lo (hi - lo).toNat, fun _ => True, M1, rfl, I1.kept (t' := s1.toks) fun b o e => Heap.get?_push_of_some _ e, turn_range _ lo (hi - lo).toNat, ?_, fun b hb => ?_, g1, feeds_range (by omega), q⟩
  · have e1 : lo + ((0 : Nat) : Int) * 1 = lo := by simp
    have e2 : (((hi - lo).toNat : Nat) : Int) - ((0 : Nat) : Int) = Builtin.Range.rangeSize lo hi 1 := by rw [rangeSize_one]; split <;> omega
    show IsRangeIter _ _ (lo + ((0 : Nat) : Int) * 1) ((((hi - lo).toNat : Nat) : Int) - ((0 : Nat) : Int)) 1
    rw [e1, e2]
    exact Heap.get?_push_size _ rfl
  · have e : b = s1.heap.objs.size := by simpa using hb
    subst e
    exact I1.fpOk (Nat.le_refl _) (I1.hok.fresh (Nat.le_refl _))⟩
end
end DL

/-! for x in range(i, j, -1). -/
namespace DL
open PySem PySem.Spec PyProof.Rows L2
def iRangeN (ta : DA) : DI := fun τ M Q E => ta τ M (fun ds M1 => match ds with
  | [.int i, .int j, .int (-1)] => (-4000000000000000000 ≤ i ∧ i ≤ 4000000000000000000 ∧ -4000000000000000000 ≤ j ∧ j ≤ 4000000000000000000 ∧ i - j ≤ 16777216) ∧ Q (rangeC i (-1) (i - j).toNat) (fun _ => True) M1
  | _ => False) E
theorem monoI_rangeN {t : DA} (m : MonoA t) : MonoI (iRangeN t) := fun τ M Q Q' E E' h he q => m τ M _ _ _ _ (fun ds M1 z => by
  revert z
  split
  · exact fun z => ⟨z.1, h _ _ _ z.2⟩
  · exact id) he q
section
variable {C : DC} {a b c tg : Expr} {p pos : Pos}
theorem den_l3 {K : PySem.W.Frag} {H : Hp} {M : Mp} {d e f : D} {vs : List V} (h : DenL K H M [d, e, f] vs) : ∃ u v w, vs = [u, v, w] ∧ Den K H M d u ∧ Den K H M e v ∧ Den K H M f w := by
  simp only [DenL] at h
  obtain ⟨u, r, rfl, d1, v, r2, rfl, d2, w, r3, rfl, d3, rfl⟩ := h
  exact ⟨u, v, w, rfl, d1, d2, d3⟩
theorem di_rangeN {t : DA} (hg : Gl C.X "range") (hm : C.X.mg "range" = none) (ha : DPA C [a, b, c] t) (hs : starEach [a, b, c] C.X.env = (false, eval a C.X.env) :: starEach [b, c] C.X.env := by rfl) (hpl : (backTo pos (starEach [b, c] C.X.env)).any (·.1) = false := by rfl) :
    DPI C tg (.Call (.Name "range" p) [a, b, c] [] pos) (iRangeN t) :=
  dpi_run (monoI_rangeN ha.mono) (pi_range3 hg hm ha.pa hs hpl) fun pins s σ H τ M Q I er sr q => ⟨τ, M, er, sr, ha.mono _ _ _ _ _ _ (fun ds M' z vs H' g l => by
    revert z
    split
    · rename_i i j
      intro z
      obtain ⟨u, v, w, rfl, d1, d2, d3⟩ := den_l3 l
      simp only [Den] at d1 d2 d3
      subst d1 d2 d3
      exact ⟨i, j, -1, (i - j).toNat, rfl, RgC.neg (by omega) (by omega) (by omega) (by omega), _, _, M', g, feeds_rangeC (by omega), z.2⟩
    · exact fun z => z.elim) (fun _ _ _ z => z) q⟩
end
end DL

/-! set(..) of a list of ints, with its order told, and sorted(set(..)). -/
namespace DL
open PySem PySem.Spec PyProof.Rows L2
/-- the set object as it is made -/
def nuO (w : World) : Obj := { cls := .type "set", dict := none, data := .set #[] 0 (.fresh 0 0 (!w.params.followText "set-order")) }
section
variable {P : Program} {w : World} {A : Around} {E : Value → Shared → Prop} {s : Shared}
theorem init_ints {l : Addr} {its : Array Value} (ks : List Int) {o : Obj} (eo : o = { cls := .type "set", dict := none, data := .set #[] 0 (.fresh 0 0 (!w.params.followText "set-order")) }) (quiet : A.handled = none) (isl : s.heap.IsList l its)
    (are : IntsAre its.toList ks) (room : ks.length + 1 < scanBound) {R : Value → Shared → Prop}
    (fin : ∀ (g : Heap) (u c : Nat), SetR w g s.heap.objs.size (fun j => decide (j ∈ ks)) c → c ≤ ks.length → (∀ b z, s.heap.get? b = some z → g.get? b = some z) → R .none { s with heap := g, toks := u }) :
    codeAny (model P w) A (.call (.builtin "set.__init__") ⟨[.ref s.heap.objs.size, .ref l], []⟩) (wants R E) { s with heap := s.heap.push o } := by
  have len : its.size = ks.length := by
    have z := are.length
    rwa [Array.length_toList] at z
  obtain ⟨⟨oc, od, ot, os⟩, at0, ec, k0, ed⟩ := isl
  dsimp only at ec ed
  subst ec ed
  have lt0 : l < s.heap.objs.size := Heap.lt_size at0
  have nod : o.isFreed = false := by rw [eo]; rfl
  have at1 := Heap.get?_push_of_some o at0
  have top : (s.heap.push o).get? s.heap.objs.size = some o := Heap.get?_push_size _ nod
  have sub1 := F.sub_list_set
  have sub2 := F.sub_list_frozenset
  have nodict : (Value.type "list" == Value.type "dict") = false := by decide
  have isl1 : (s.heap.push o).IsList l its := ⟨_, at1, rfl, k0, rfl⟩
  refine codeAny_call_builtin F.called_set.init.plain F.entry_set_init (check_set_init_1 ⟨_, top, by rw [eo]⟩ ?_)
  subst eo
  unfold Builtin.«set.__init__» noKeywords Builtin.Frozenset.updateFrom
  generalize e0 : pyIter = PI
  wp_walk
  subst e0
  refine wpAny_pyIter_list isl1 ?_
  refine wpAny_bind (wpAny_runValue ?_)
  clear nod
  generalize eo : ({ cls := .type "set", dict := none, data := .set #[] 0 (.fresh 0 0 (!w.params.followText "set-order")) } : Obj) = o at *
  have quiet3 : A.in1.in1.handled = none := by simp [quiet]
  have sz1 : (s.heap.push o).objs.size = s.heap.objs.size + 1 := Heap.size_push ..
  have off : l ≠ (s.heap.push o).objs.size := sz1.symm ▸ Nat.ne_of_lt (Nat.lt_succ_of_lt lt0)
  have off2 : s.heap.objs.size ∉ [(s.heap.push o).objs.size, l] := fun h => by
    rcases List.mem_cons.mp h with e | h
    · rw [sz1] at e; exact Nat.ne_of_lt (Nat.lt_succ_self _) e
    · exact Nat.ne_of_gt lt0 (List.mem_singleton.mp h)
  refine set_update_ints ((Walks.list quiet3 _ l off its).toS) s.heap.objs.size off2 ks len room ?val (its.size - 0) 0 _ (by omega) (Nat.zero_le _) ?st ?start ?stop
  case st => exact ⟨⟨_, Heap.get?_push_size _ rfl, rfl, rfl⟩, isl1.push _⟩
  case val =>
    intro i v hv
    have hi : i < ks.length := by rw [← len]; exact (Array.getElem?_eq_some_iff.mp hv).1
    obtain ⟨u, e⟩ := PyProof.Rows.IntsAre.int_at are i v (by rw [Array.getElem?_toList]; exact hv)
    exact ⟨ks[i], u, List.getElem?_eq_getElem hi, by rw [e]; simp [List.getD_eq_getElem?_getD, List.getElem?_eq_getElem hi]⟩
  case start => exact ⟨0, Nat.le_refl 0, setR_new_at ((Heap.get?_push_of_some _ top).trans (by rw [eo]))⟩
  case stop =>
    intro s' c mv hc hS
    obtain ⟨g, ge, dr, tk, oo⟩ := s'
    have e1 : ge = s.gens := mv.gens
    have e2 : dr = s.drawn := mv.drawn
    have e3 : oo = s.os := mv.os
    subst e1 e2 e3
    show wpAny _ _ _ _ _ _
    refine wpAny_pure ?_
    show wpAny _ _ (ret Value.none) _ _ _
    refine wpAny_pure (fin g tk c hS (len ▸ hc) fun b z hb => ?_)
    have ltb : b < s.heap.objs.size := Heap.lt_size hb
    refine mv.heap b z (fun h => ?_) (Heap.get?_push_of_some _ (Heap.get?_push_of_some _ hb))
    rcases List.mem_cons.mp h with e | h
    · exact Nat.ne_of_lt ltb e
    · rw [List.mem_singleton.mp h, sz1] at ltb
      exact Nat.not_lt_of_ge (Nat.le_succ _) ltb
theorem call_set_ints {l : Addr} {its : Array Value} (ks : List Int) (quiet : A.handled = none) (isl : s.heap.IsList l its) (are : IntsAre its.toList ks) (room : ks.length + 1 < scanBound) {R : Value → Shared → Prop}
    (fin : ∀ (g : Heap) (u c : Nat), SetR w g s.heap.objs.size (fun j => decide (j ∈ ks)) c → c ≤ ks.length → (∀ b z, s.heap.get? b = some z → g.get? b = some z) → R (.ref s.heap.objs.size) { s with heap := g, toks := u }) :
    wpAny (model P w) A (call (.type "set") [.ref l]) R E s := by
  obtain ⟨k1, k2, mro⟩ := F.called_set.mro
  have made := F.called_set.made
  have sub := F.called_set.sub
  refine wpAny_call (codeAny_of_tree (show wpAny _ _ (callAny (.type "set") _) _ _ _ from wpAny_pure ⟨Code.quiet_builtin _ (by decide +kernel), codeAny_builtin F.entry_type_call ?_⟩))
  rw [Around.under_plain (weight_type_call_type "set" [.ref l] []) rfl]
  have c1 := F.called_set.notType
  have c2 := F.called_set.canCreate
  have c3 := F.typeCall_set_1 (.ref l)
  repeat (any_goals (first | assumption | wp_step))
  refine codeAny_mono (code_set_led1 (.ref l) (E := E) (Q₁ := fun v z => v = .ref s.heap.objs.size ∧ z = { s with heap := s.heap.push { cls := .type "set", dict := none, data := .set #[] 0 (.fresh 0 0 (!w.params.followText "set-order")) } }) ⟨rfl, rfl⟩) fun r z hr => ?_
  match r, hr with
  | .error e, hr => exact hr
  | .ok (.ret v), hr =>
    obtain ⟨rfl, rfl⟩ := hr
    have look := F.called_set.init.lookup
    have bnd := F.called_set.init.bind (.ref s.heap.objs.size)
    have top : (s.heap.push { cls := .type "set", dict := none, data := .set #[] 0 (.fresh 0 0 (!w.params.followText "set-order")) }).get? s.heap.objs.size = some { cls := .type "set", dict := none, data := .set #[] 0 (.fresh 0 0 (!w.params.followText "set-order")) } := Heap.get?_push_size _ rfl
    have ty : Shared.TypeIs { s with heap := s.heap.push { cls := .type "set", dict := none, data := .set #[] 0 (.fresh 0 0 (!w.params.followText "set-order")) } } (.ref s.heap.objs.size) "set" := ⟨_, top, rfl⟩
    repeat (any_goals (first | assumption | wp_step))
    refine codeAny_mono (init_ints ks rfl (by simp [quiet]) isl are room (R := fun v z => v = .none ∧ ∃ g u c, z = { s with heap := g, toks := u } ∧ SetR w g s.heap.objs.size (fun j => decide (j ∈ ks)) c ∧ c ≤ ks.length ∧ ∀ b z, s.heap.get? b = some z → g.get? b = some z) (E := E) fun g u c a1 a2 a3 => ⟨rfl, g, u, c, rfl, a1, a2, a3⟩) fun r z hr => ?_
    match r, hr with
    | .error e, hr => exact hr
    | .ok (.ret v), hr =>
      obtain ⟨rfl, g, u, c, rfl, a1, a2, a3⟩ := hr
      repeat (any_goals (first | assumption | wp_step))
      exact fin g u c a1 a2 a3
end
end DL

/-! sorted(set(..)) of a list of ints, or of tuples of ints, as a function of what stands in the list. -/
namespace DL
open PySem PySem.Spec PyProof.Rows L2
/-! ### the plain side -/
def nubL {α : Type} [DecidableEq α] : List α → List α
  | [] => []
  | x :: r => if x ∈ r then nubL r else x :: nubL r
theorem nubL_mem {α : Type} [DecidableEq α] {y : α} : ∀ {l : List α}, y ∈ nubL l ↔ y ∈ l
  | [] => Iff.rfl
  | x :: r => by
    unfold nubL
    split
    · rw [nubL_mem, List.mem_cons]
      exact ⟨.inr, fun h => h.elim (fun e => e ▸ ‹_›) id⟩
    · rw [List.mem_cons, List.mem_cons, nubL_mem]
theorem nubL_nodup {α : Type} [DecidableEq α] : ∀ {l : List α}, (nubL l).Nodup
  | [] => List.nodup_nil
  | x :: r => by
    unfold nubL
    split
    · exact nubL_nodup
    · exact List.nodup_cons.mpr ⟨fun h => ‹¬ _› (nubL_mem.mp h), nubL_nodup⟩
theorem perm_of {α : Type} [DecidableEq α] {a b : List α} (ha : a.Nodup) (hb : b.Nodup) (h : ∀ k, k ∈ a ↔ k ∈ b) : a.Perm b := by
  rw [List.perm_iff_count]
  intro k
  rw [ha.count, hb.count]
  simp only [h k]
def sortI (ks : List Int) : List Int := (nubL ks).mergeSort fun a b => decide (a ≤ b)
theorem sortI_mem {ks : List Int} {k : Int} : k ∈ sortI ks ↔ k ∈ ks := by rw [sortI, List.mem_mergeSort, nubL_mem]
theorem sortI_le (ks : List Int) : (sortI ks).Pairwise (· ≤ ·) := by
  have h := List.pairwise_mergeSort (le := fun a b : Int => decide (a ≤ b)) (fun a b c h1 h2 => by simp only [decide_eq_true_eq] at *; omega) (fun a b => by simp only [Bool.or_eq_true, decide_eq_true_eq]; omega) (nubL ks)
  exact h.imp fun h => of_decide_eq_true h
theorem sortI_nodup (ks : List Int) : (sortI ks).Nodup := (List.mergeSort_perm _ _).nodup_iff.mpr nubL_nodup
theorem sortI_lt (ks : List Int) : (sortI ks).Pairwise (· < ·) := ((sortI_le ks).and (sortI_nodup ks)).imp fun h => Int.lt_iff_le_and_ne.mpr h
theorem sortI_eq {ks L : List Int} (h1 : L.Pairwise (· < ·)) (h2 : ∀ k, k ∈ L ↔ k ∈ ks) : L = sortI ks :=
  List.Perm.eq_of_pairwise (le := (· ≤ ·)) (fun a b _ _ h1 h2 => Int.le_antisymm h1 h2) (h1.imp Int.le_of_lt) (sortI_le ks) (perm_of (h1.imp Int.ne_of_lt) (sortI_nodup ks) fun k => (h2 k).trans sortI_mem.symm)
/-- tuples of n ints in [0, 2^40) -/
def bigB : Int := 1099511627776
def codB (k : List Int) : Int := TS.code bigB k
def tupsD : List D → Option (List (List Int))
  | [] => some []
  | .tup t :: r => (intsD' t).bind fun k => (tupsD r).map (k :: ·)
  | _ => none
where intsD' : List D → Option (List Int)
  | [] => some []
  | .int z :: r => (intsD' r).map (z :: ·)
  | _ => none
theorem intsD'_some : ∀ {ds : List D} {k : List Int}, tupsD.intsD' ds = some k → ds = k.map D.int
  | [], _, h => by simp only [tupsD.intsD', Option.some.injEq] at h; subst h; rfl
  | d :: r, k, h => by
    cases d <;> simp only [tupsD.intsD', reduceCtorEq, Option.map_eq_some_iff] at h
    obtain ⟨k', e, rfl⟩ := h
    rw [intsD'_some e]; rfl
theorem tupsD_some : ∀ {ds : List D} {ks : List (List Int)}, tupsD ds = some ks → ds = ks.map tupI
  | [], _, h => by simp only [tupsD, Option.some.injEq] at h; subst h; rfl
  | d :: r, k, h => by
    cases d <;> simp only [tupsD, reduceCtorEq, Option.bind_eq_some_iff, Option.map_eq_some_iff] at h
    obtain ⟨k', e, k2, e2, rfl⟩ := h
    rw [tupsD_some e2, intsD'_some e]; rfl
def sortT (ks : List (List Int)) : List (List Int) := (nubL ks).mergeSort fun a b => decide (codB a ≤ codB b)
def okT (ks : List (List Int)) : Bool := match ks with
  | [] => true
  | k :: _ => decide (1 ≤ k.length) && ks.all fun q => decide (q.length = k.length) && q.all fun z => decide (0 ≤ z) && decide (z < bigB)
theorem okT_of {ks : List (List Int)} (h : okT ks = true) : ∃ n, 1 ≤ n ∧ ∀ k ∈ ks, k.length = n ∧ TS.Bd bigB k := by
  cases ks with
  | nil => exact ⟨1, Nat.le_refl _, fun _ z => nomatch z⟩
  | cons k r =>
    simp only [okT, Bool.and_eq_true, decide_eq_true_eq, List.all_eq_true] at h
    exact ⟨k.length, h.1, fun q hq => ⟨(h.2 q hq).1, fun z hz => (h.2 q hq).2 z hz⟩⟩
theorem code_inj {B : Int} : ∀ {a b : List Int}, a.length = b.length → TS.Bd B a → TS.Bd B b → TS.code B a = TS.code B b → a = b
  | [], [], _, _, _, _ => rfl
  | [], _ :: _, h, _, _, _ => by simp at h
  | _ :: _, [], h, _, _, _ => by simp at h
  | x :: a, y :: b, hl, h1, h2, e => by
    have hl' : a.length = b.length := by simpa using hl
    rcases Int.lt_trichotomy x y with c | c | c
    · exact absurd e (Int.ne_of_lt (TS.code_lt hl' h1.tail h2.tail c))
    · subst c
      have e2 : x * B ^ a.length + TS.code B a = x * B ^ b.length + TS.code B b := e
      rw [hl'] at e2
      rw [code_inj hl' h1.tail h2.tail (by omega)]
    · exact absurd e.symm (Int.ne_of_lt (TS.code_lt hl'.symm h2.tail h1.tail c))
theorem sortT_mem {ks : List (List Int)} {k : List Int} : k ∈ sortT ks ↔ k ∈ ks := by rw [sortT, List.mem_mergeSort, nubL_mem]
theorem sortT_nodup (ks : List (List Int)) : (sortT ks).Nodup := (List.mergeSort_perm _ _).nodup_iff.mpr nubL_nodup
theorem sortT_le (ks : List (List Int)) : (sortT ks).Pairwise fun a b => codB a ≤ codB b := by
  have h := List.pairwise_mergeSort (le := fun a b : List Int => decide (codB a ≤ codB b)) (fun a b c h1 h2 => by simp only [decide_eq_true_eq] at *; omega) (fun a b => by simp only [Bool.or_eq_true, decide_eq_true_eq]; omega) (nubL ks)
  exact h.imp fun h => of_decide_eq_true h
theorem sortT_eq {ks L : List (List Int)} (ho : okT ks = true) (h1 : L.Pairwise fun a b => codB a ≤ codB b) (h0 : L.Nodup) (h2 : ∀ k, k ∈ L ↔ k ∈ ks) : L = sortT ks := by
  obtain ⟨n, _, hB⟩ := okT_of ho
  exact List.Perm.eq_of_pairwise (le := fun a b => codB a ≤ codB b) (fun a b ha hb l1 l2 => by
    have a1 := hB a ((h2 a).mp ha)
    have b1 := hB b (sortT_mem.mp hb)
    exact code_inj (a1.1.trans b1.1.symm) a1.2 b1.2 (Int.le_antisymm l1 l2)) h1 (sortT_le ks) (perm_of h0 (sortT_nodup ks) fun k => (h2 k).trans sortT_mem.symm)
def gSortSet : OL := fun ds M => match ds with
  | [x] => (itemsL M x).bind fun xs => (if xs.length < 64 then (match nums xs with
    | some ks => some (.lst ((sortI ks).map D.int))
    | none => (tupsD xs).bind fun ks => if okT ks = true then some (.lst ((sortT ks).map tupI)) else none) else none).bind some
  | _ => none
/-! ### the walk -/
section
variable {X : Cx}
def rSetOfI (K : PySem.W.Frag) (w : World) : List V → Hp → VK → Prop := fun xs H Q => ∃ (l : Addr) (ks : List Int), xs = [V.ref l] ∧ SqL K H l (ks.map V.int) ∧ ks.length < 64 ∧
  ∀ a c, H a = none → c ≤ ks.length → Q (.ref a) (upd H a (SetO w a (fun j => decide (j ∈ ks)) c))
theorem cr_setOfI (hc : X.calm = true) : CallR X (.type "set") (rSetOfI X.K X.w) := by
  intro pins s σ H xs us Q I r h
  obtain ⟨l, ks, rfl, hl, hf, q⟩ := h
  rw [Vals.ref1 r]
  obtain ⟨its, rv, pl, hz⟩ := I.list hl
  have hn : H s.heap.objs.size = none := I.hok.fresh (Nat.le_refl _)
  refine call_set_ints (P := X.prog) (w := X.w) ks (I.ok.hd hc) pl.isList (by simpa using ints_of_vals rv) (by show _ < 4096; omega) fun g u c a1 a2 a3 => ?_
  exact ⟨.ref s.heap.objs.size, upd H s.heap.objs.size (SetO X.w s.heap.objs.size (fun j => decide (j ∈ ks)) c), I.laid (t' := u) a3 (Nat.le_refl _) (setO_new a1), rfl, q _ c hn a2⟩
theorem CallR.or {f : Value} {r1 r2 : List V → Hp → VK → Prop} (h1 : CallR X f r1) (h2 : CallR X f r2) : CallR X f fun xs H Q => r1 xs H Q ∨ r2 xs H Q := fun pins s σ H xs us Q I r h => by
  rcases h with h | h
  · exact h1 pins s σ H xs us Q I r h
  · exact h2 pins s σ H xs us Q I r h
variable {C : DC} {e : Expr} {p p2 q2 pos pos2 : Pos} {te : DE}
theorem den_nums {K : PySem.W.Frag} {H : Hp} {M : Mp} {xs : List D} {ks : List Int} {vs : List V} (e : nums xs = some ks) (l : DenL K H M xs vs) : vs = ks.map V.int := nums_den e l
theorem de_sortset (hc : C.X.calm = true) (hg : Gl C.X "sorted") (hm : C.X.mg "sorted" = none) (hg2 : Gl C.X "set") (hm2 : C.X.mg "set" = none) (he : DPE C e te)
    (hs2 : starEach [e] C.X.env = (false, eval e C.X.env) :: starEach [] C.X.env := by rfl) (hpl2 : (backTo pos2 (starEach [] C.X.env)).any (·.1) = false := by rfl)
    (hs : starEach [.Call (.Name "set" p2) [e] [] pos2] C.X.env = (false, eval (.Call (.Name "set" p2) [e] [] pos2) C.X.env) :: starEach [] C.X.env := by rfl) (hpl : (backTo pos (starEach [] C.X.env)).any (·.1) = false := by rfl) :
    DPE C (.Call (.Name "sorted" p) [.Call (.Name "set" p2) [e] [] pos2] [] pos) (dFn gSortSet (dCons te dNil)) := by
  refine .of (mono_fn (mono_cons he.mono mono_nil)) (pe_callB (CallR.or (cr_sortedSet hc) (cr_sortedT hc)) hg hm (by decide +kernel) (pa_cons (pe_callTy (CallR.or (cr_setOfI hc) (cr_setOfT hc (by have := C.un64; omega))) hg2 hm2 (by decide +kernel) (pa_cons he.pe pa_nil hs2) (by decide) (by decide) hs2 hpl2) pa_nil hs) (by decide) (by decide) hs hpl) fun σ H Q ⟨τ, M, er, sr, q⟩ => ?_
  refine ⟨τ, M, er, sr, he.mono _ _ _ _ _ _ (fun d M1 z v H1 g1 dn => ?_) (fun _ _ _ z => z) q⟩
  obtain ⟨y, ez, k⟩ := ok1_ex z
  cases ei : itemsL M1 d with
  | none => rw [show gSortSet [d] M1 = (itemsL M1 d).bind _ from rfl, ei] at ez; cases ez
  | some xs =>
    rw [show gSortSet [d] M1 = (itemsL M1 d).bind _ from rfl, ei, Option.bind_some] at ez
    obtain ⟨e1, e2⟩ := itemsL_of ei
    obtain ⟨l, vs, rfl, dl, hs⟩ := seq_of (sr.go g1).abs dn e1
    have hl : SqL C.X.K H1 l vs := by
      rcases hs with ⟨⟨zs, z⟩, _⟩ | ⟨_, hl, _⟩
      · exact absurd z (e2 zs)
      · exact hl
    have sr1 := sr.go g1
    split at ez
    · rename_i h64
      cases en : nums xs with
      | some ks =>
        rw [en] at ez
        simp only [Option.bind_some, Option.some.injEq] at ez
        subst ez
        have ev := den_nums en dl
        subst ev
        have hk : ks.length < 64 := by have := dl.length; rw [List.length_map] at this; omega
        refine .inl ⟨l, ks, rfl, hl, hk, fun a c hna hc' => ?_⟩
        have g2 : Go C H1 M1 (upd H1 a (SetO C.X.w a (fun j => decide (j ∈ ks)) c)) M1 := Go.new sr1 hna fun ps z => by unfold SetO at z; cases z
        refine .inl ⟨a, fun j => decide (j ∈ ks), c, rfl, upd_same, by omega, fun L' pp hL1 hL2 hL3 hnp => ?_⟩
        have sr2 := sr1.go g2
        obtain ⟨g3, dz⟩ := new_lst sr2 hnp (ints_den (K := C.X.K) (H := upd H1 a (SetO C.X.w a (fun j => decide (j ∈ ks)) c)) (M := M1) L')
        have eL : L' = sortI ks := sortI_eq hL1 fun k => (hL2 k).trans (by simp)
        subst eL
        exact k _ _ ((g1.trans g2).trans g3) dz
      | none =>
        rw [en] at ez
        cases et : tupsD xs with
        | none => rw [et] at ez; cases ez
        | some ks =>
          rw [et] at ez
          simp only [Option.bind_some] at ez
          split at ez
          · rename_i ho
            cases ez
            obtain ⟨n, hn, hB⟩ := okT_of ho
            have exs := tupsD_some et
            subst exs
            obtain ⟨ps, rfl, rfl, hps⟩ := den_tups dl
            refine .inr ⟨l, ps, rfl, hl, fun q hq => (hps q hq).sq, by simpa using h64, fun a L hna hL1 hL2 => ?_⟩
            have g2 : Go C H1 M1 (upd H1 a (SetTO C.X.prog C.X.w a L)) M1 := Go.new sr1 hna fun ps z => by unfold SetTO at z; cases z
            refine .inr ⟨a, L, n, bigB, rfl, upd_same, fun q hq => ((hps q (hL1 q hq)).keep g2.keep).sq, hn, fun q hq => hB q.2 (List.mem_map.mpr ⟨q, hL1 q hq, rfl⟩), fun L' p2 pm nd hf pw hnp => ?_⟩
            have sr2 := sr1.go g2
            have mem : ∀ q ∈ L', q ∈ ps := fun q hq => hL1 q (pm.mem_iff.mp hq)
            have dd := tups_den (K := C.X.K) (H := upd H1 a (SetTO C.X.prog C.X.w a L)) (M := M1) L' fun q hq => (hps q (mem q hq)).keep g2.keep
            obtain ⟨g3, dz⟩ := new_lst sr2 hnp dd
            have eM : (L'.map fun q => tupI q.2) = (L'.map (·.2)).map tupI := by rw [List.map_map]; rfl
            rw [eM] at dz
            have eL : L'.map (·.2) = sortT (ps.map (·.2)) := sortT_eq ho (List.pairwise_map.mpr pw) nd fun kk => ⟨fun h => by
              obtain ⟨q, hq, rfl⟩ := List.mem_map.mp h
              exact List.mem_map.mpr ⟨q, mem q hq, rfl⟩, fun h => by
              obtain ⟨q, hq, rfl⟩ := List.mem_map.mp h
              obtain ⟨q', hq', e⟩ := List.mem_map.mp (hL2 q hq)
              exact List.mem_map.mpr ⟨q', pm.mem_iff.mpr hq', e⟩⟩
            rw [eL] at dz
            exact k _ _ ((g1.trans g2).trans g3) dz
          · cases ez
    · cases ez
end
end DL

/-! x += e, x -= e of ints. -/
namespace DL
open PySem PySem.Spec PyProof.Rows L2
def fAddI : O2 := fun x y _ => match x, y with
  | .int i, .int j => some (.int (i + j))
  | _, _ => none
def fSubI : O2 := fun x y _ => match x, y with
  | .int i, .int j => some (.int (i - j))
  | _, _ => none
section
variable {C : DC} {e : Expr} {te : DE} {x : Str} {pos pos' : Pos}
theorem ds_aug {op : Operator} {f : Int → Int → Int} {g : O2} (hg : ∀ x y M z, g x y M = some z → ∃ i j, x = .int i ∧ y = .int j ∧ z = .int (f i j)) (ho : PIp C.X op (ipI f)) (i : Nat) (he : DPE C e te) 
    (hi : C.X.N[i]? = some x) (hx : Loc C.X.env.scope x) (hf : C.X.fn x = true ∨ C.X.env.scope.names.lookup x = some .local) : DPS C (.AugAssign (.Name x pos') op e pos) (sAsg (dOp g (dVar i) te) (gVar i)) :=
  .of (monoS_asg (mono_op mono_var he.mono) monoG_var) (ps_aug C.nd hi hx he.pe ho hf) fun H M τ σ D er sr q => by
    obtain ⟨d, ed, q⟩ := ok1_ex q
    obtain ⟨v, ev, dn⟩ := er.2 i d (getV_get ed)
    refine ⟨v, ev, τ, M, er, sr, he.mono _ _ _ _ _ _ (fun y M1 z w H1 g1 dw => ?_) (fun _ _ _ z => z) q⟩
    obtain ⟨r, er', z⟩ := ok1_ex z
    obtain ⟨a, b, rfl, rfl, rfl⟩ := hg _ _ _ _ er'
    simp only [Den] at dn dw
    subst dn dw
    refine ⟨a, b, rfl, rfl, _, _, ?_, g1, z⟩
    rw [setV_set]
    exact (er.keep g1.keep).set (by simp only [Den])
theorem ds_augA (i : Nat) (he : DPE C e te) (hi : C.X.N[i]? = some x := by rfl) (hx : C.X.env.scope.names.lookup x = some .local := by rfl) : DPS C (.AugAssign (.Name x pos') .Add e pos) (sAsg (dOp fAddI (dVar i) te) (gVar i)) :=
  ds_aug (f := fun i j => i + j) (fun x y M z h => by cases x <;> cases y <;> simp only [fAddI, reduceCtorEq, Option.some.injEq] at h; exact ⟨_, _, rfl, rfl, h.symm⟩) ip_add i he hi (.inl hx) (.inr hx)
theorem ds_augS (i : Nat) (he : DPE C e te) (hi : C.X.N[i]? = some x := by rfl) (hx : C.X.env.scope.names.lookup x = some .local := by rfl) : DPS C (.AugAssign (.Name x pos') .Sub e pos) (sAsg (dOp fSubI (dVar i) te) (gVar i)) :=
  ds_aug (f := fun i j => i - j) (fun x y M z h => by cases x <;> cases y <;> simp only [fSubI, reduceCtorEq, Option.some.injEq] at h; exact ⟨_, _, rfl, rfl, h.symm⟩) ip_sub i he hi (.inl hx) (.inr hx)
end
end DL

/-! A dict of one's own with tuple keys, as a function over slots. -/
namespace DL
open PySem PySem.Spec PyProof.Rows L2
def nKNew (i : Nat) : FS := fun S => .nx (setS S i (.ow none (.kst [])))
def kstS (S : Fs) (i : Nat) : Option (List (List Int)) := match getS S i with
  | .ow _ (.kst ks) => some ks
  | _ => none
def putKS (S : Fs) (i : Nat) (ks : List (List Int)) : Fs := match getS S i with
  | .ow t _ => setS S i (.ow t (.kst ks))
  | _ => S
def intsD : List D → Option (List Int)
  | [] => some []
  | .int z :: r => (intsD r).map (z :: ·)
  | _ => none
theorem intsD_some : ∀ {ds : List D} {k : List Int}, intsD ds = some k → ds = k.map D.int
  | [], _, h => by simp only [intsD, Option.some.injEq] at h; subst h; rfl
  | d :: r, k, h => by
    cases d <;> simp only [intsD, reduceCtorEq, Option.map_eq_some_iff] at h
    obtain ⟨k', e, rfl⟩ := h
    rw [intsD_some e]; rfl
def fgKst (i : Nat) (a : FAs) : FG := fun d S => R.opt (kstS S i) fun _ => (a S).bnd fun ds S1 => R.opt (intsD ds) fun k => R.opt (kstS S1 i) fun ks => match d with
  | .bl true => if k.length ≤ sizeLine ∧ ks.length < sizeLine then .ok () (putKS S1 i (kstPut ks k)) else .un
  | _ => .un
def fSortK (i : Nat) : FE := fun S => R.opt (kstS S i) fun ks => R.of (gSorted [.lst (ks.map tupI)] Mn) S
section
variable {K : PySem.W.Frag} {i : Nat} {t : DA} {a : FAs}
theorem sims_knew : SimS K (sAsg dKNew (gVar i)) (nKNew i) := fun ad M0 S τ M En r q => fun p hp => q _ _ (r.set_ow i hp (.kst []) (fun z => nomatch z))
theorem Rel.kst {ad : Nat → Addr} {M0 M : Mp} {S : Fs} {τ : Sd} (r : Rel ad M0 S τ M) {ks : List (List Int)} (h : kstS S i = some ks) : ∃ a, getV τ i = some (.ref a) ∧ M a = some (.kst ks) ∧ ∀ ls, Rel ad M0 (putKS S i ls) τ (put M a (.kst ls)) := by
  unfold kstS at h
  split at h <;> cases h
  rename_i t e
  obtain ⟨a, e1, hM, _⟩ := r.ow i t _ e
  refine ⟨a, e1, hM, fun ls => ?_⟩
  unfold putKS
  rw [e]
  exact r.upd e e1 (.kst ls) (fun z => nomatch z)
theorem simg_kst (h : Sim K t a) : SimG (gKst (dVar i) t) (fgKst i a) := fun ad M0 S τ M d Q r q => by
  unfold fgKst at q
  cases e0 : kstS S i with
  | none => rw [e0] at q; exact q.elim
  | some ys =>
    rw [e0] at q
    dsimp only [R.opt] at q
    obtain ⟨p, e1, hM, _⟩ := r.kst e0
    refine ok1_of e1 (h ad M0 S τ M _ _ r ?_)
    cases e2 : a S with
    | ex c fs S1 => rw [e2] at q; exact q.elim
    | un => rw [e2] at q; exact q.elim
    | ok ds S1 =>
      rw [e2] at q
      dsimp only [R.bnd] at q
      intro M1 r1
      cases e3 : intsD ds with
      | none => rw [e3] at q; exact q.elim
      | some k =>
        rw [e3] at q
        dsimp only at q
        cases e4 : kstS S1 i with
        | none => rw [e4] at q; exact q.elim
        | some ks =>
          rw [e4] at q
          dsimp only at q
          obtain ⟨p2, e5, hM1, up⟩ := r1.kst e4
          rw [e1] at e5; cases e5
          have ek := intsD_some e3
          cases d with
          | bl b =>
            cases b with
            | true =>
              by_cases hc : k.length ≤ sizeLine ∧ ks.length < sizeLine
              · simp only [if_pos hc] at q
                exact ⟨rfl, by rw [ek, List.length_map]; exact hc.1, p, ks, k, rfl, hM1, ek, hc.2, q _ _ (up _)⟩
              · simp only [if_neg hc] at q
            | false => exact q.elim
          | _ => exact q.elim
theorem sim_sortK : Sim K (dFn gSortK (dCons (dVar i) dNil)) (fSortK i) := fun ad M0 S τ M Q E r q => by
  unfold fSortK at q
  obtain ⟨ks, e0, q⟩ := q.opt
  obtain ⟨z, ez, q⟩ := q.of
  obtain ⟨p, e1, hM, _⟩ := r.kst e0
  refine ok1_of e1 (ok1_of (a := z) ?_ (q M r))
  show (match M p with
    | some (.kst ks) => gSorted [.lst (ks.map tupI)] M
    | _ => none) = some z
  rw [hM]
  exact ez
end
/-! reading rules -/
section
variable {i : Nat} {a : FAs} {s : SV} {q : Fs}
@[simp] theorem ok_knew {k : Kt} : okO (nKNew i (s :: q)) k = k.nx (setS (s :: q) i (.ow none (.kst []))) := rfl
@[simp] theorem f_knew : nKNew i (s :: q) = .nx (setS (s :: q) i (.ow none (.kst []))) := of_eq_true (eq_self _)
@[simp] theorem f_kstS : kstS (s :: q) i = (match getS (s :: q) i with
  | .ow _ (.kst ks) => some ks
  | _ => none) := of_eq_true (eq_self _)
@[simp] theorem f_putKS {ks : List (List Int)} : putKS (s :: q) i ks = (match getS (s :: q) i with
  | .ow t _ => setS (s :: q) i (.ow t (.kst ks))
  | _ => (s :: q)) := of_eq_true (eq_self _)
@[simp] theorem f_sortK : fSortK i (s :: q) = R.opt (kstS (s :: q) i) fun ks => R.of (gSorted [.lst (ks.map tupI)] Mn) (s :: q) := of_eq_true (eq_self _)
@[simp] theorem f_gkst {d : D} : fgKst i a d (s :: q) = R.opt (kstS (s :: q) i) fun _ => (a (s :: q)).bnd fun ds S1 => R.opt (intsD ds) fun k => R.opt (kstS S1 i) fun ks => match d with
  | .bl true => if k.length ≤ sizeLine ∧ ks.length < sizeLine then .ok () (putKS S1 i (kstPut ks k)) else .un
  | _ => .un := of_eq_true (eq_self _)
@[simp] theorem intsD_nil : intsD [] = some [] := of_eq_true (eq_self _)
@[simp] theorem intsD_cons {z : Int} {r : List D} : intsD (.int z :: r) = (intsD r).map (z :: ·) := of_eq_true (eq_self _)
end
end DL

/-! A range object in a name, as a function over slots. -/
namespace DL
open PySem PySem.Spec PyProof.Rows L2
def nRngO (a : FAs) (i : Nat) : FS := fun S => (a S).out fun ds S1 => match ds with
  | [.int x, .int y] => .nx (setS S1 i (.ow none (.rng x y)))
  | _ => .un
def fRngV (i : Nat) : FI := fun S => match getS S i with
  | .ow _ (.rng lo hi) => if -4000000000000000000 ≤ lo ∧ lo ≤ 4000000000000000000 ∧ -4000000000000000000 ≤ hi ∧ hi ≤ 4000000000000000000 ∧ hi - lo ≤ 16777216 then .ok (rangeD lo (hi - lo).toNat) S else .un
  | _ => .un
section
variable {K : PySem.W.Frag} {i : Nat} {t : DA} {a : FAs}
theorem sims_rngO (h : Sim K t a) : SimS K (sAsg (dRngO t) (gVar i)) (nRngO a i) := fun ad M0 S τ M En r q => h ad M0 S τ M _ _ r (q.out fun ds S1 M1 r1 q1 => by
  split at q1
  · rename_i x y
    intro p hp
    exact q1 _ _ (r1.set_ow i hp (.rng x y) (fun z => nomatch z))
  · exact q1.elim)
theorem simi_rngV : SimI K (iRngV i) (fRngV i) := fun ad M0 S τ M Q E r q => by
  unfold fRngV at q
  cases e : getS S i with
  | ow t o =>
    rw [e] at q
    cases o with
    | rng lo hi =>
      dsimp only at q
      obtain ⟨p, e1, hM, _⟩ := r.ow i t _ e
      exact ok1_of e1 ⟨p, lo, hi, rfl, hM, q.ite.1, q.ite.2 M r _ fun _ _ => trivial⟩
    | _ => exact q.elim
  | _ => rw [e] at q; exact q.elim
end
/-! reading rules -/
section
variable {i : Nat} {a : FAs} {s : SV} {q : Fs}
@[simp] theorem ok_rngO {k : Kt} : okO (nRngO a i (s :: q)) k = okR (a (s :: q)) (fun ds S1 => okO (match ds with
  | [.int x, .int y] => .nx (setS S1 i (.ow none (.rng x y)))
  | _ => .un) k) k.ex := okO_out' _ _
@[simp] theorem f_rngV : fRngV i (s :: q) = (match getS (s :: q) i with
  | .ow _ (.rng lo hi) => if -4000000000000000000 ≤ lo ∧ lo ≤ 4000000000000000000 ∧ -4000000000000000000 ≤ hi ∧ hi ≤ 4000000000000000000 ∧ hi - lo ≤ 16777216 then .ok (rangeD lo (hi - lo).toNat) (s :: q) else .un
  | _ => .un) := of_eq_true (eq_self _)
end
end DL

/-! range(i, j, -1), as a function over slots. -/
namespace DL
open PySem PySem.Spec PyProof.Rows L2
def fRangeN (a : FAs) : FI := fun S => (a S).bind fun ds S1 => match ds with
  | [.int i, .int j, .int (-1)] => if -4000000000000000000 ≤ i ∧ i ≤ 4000000000000000000 ∧ -4000000000000000000 ≤ j ∧ j ≤ 4000000000000000000 ∧ i - j ≤ 16777216 then .ok (rangeC i (-1) (i - j).toNat) S1 else .un
  | _ => .un
section
variable {K : PySem.W.Frag} {t : DA} {f : FAs}
theorem simi_rangeN (h : Sim K t f) : SimI K (iRangeN t) (fRangeN f) := fun ad M0 S τ M Q E r q =>
  h ad M0 S τ M _ E r (q.bind fun ds S1 M1 r1 q1 => by
    split at q1
    · exact ⟨q1.ite.1, q1.ite.2 M1 r1 _ fun _ _ => trivial⟩
    · exact q1.elim)
end
section
variable {as : FAs} {s : SV} {q : Fs}
@[simp] theorem f_rangeN : fRangeN as (s :: q) = (as (s :: q)).bind fun ds S1 => match ds with
  | [.int i, .int j, .int (-1)] => if -4000000000000000000 ≤ i ∧ i ≤ 4000000000000000000 ∧ -4000000000000000000 ≤ j ∧ j ≤ 4000000000000000000 ∧ i - j ≤ 16777216 then .ok (rangeC i (-1) (i - j).toNat) S1 else .un
  | _ => .un := of_eq_true (eq_self _)
end
end DL

/-! sorted(set(..)) and x += e, as functions over slots. -/
namespace DL
open PySem PySem.Spec PyProof.Rows L2
theorem olv_sortset : OlV gSortSet := olv_L (fun _ _ => rfl) fun ds h => by
  match ds, h with
  | [], _ => rfl
  | [d], h => exact absurd rfl (h d)
  | _ :: _ :: _, _ => rfl
theorem opv_addI : OpV fAddI := fun M x x' y y' z hx hy e => by
  have h : ∃ i j, x' = .int i ∧ y' = .int j := by cases x' <;> cases y' <;> simp only [fAddI, reduceCtorEq] at e; exact ⟨_, _, rfl, rfl⟩
  obtain ⟨i, j, rfl, rfl⟩ := h
  rw [vw_int hx, vw_int hy]
  exact e
theorem opv_subI : OpV fSubI := fun M x x' y y' z hx hy e => by
  have h : ∃ i j, x' = .int i ∧ y' = .int j := by cases x' <;> cases y' <;> simp only [fSubI, reduceCtorEq] at e; exact ⟨_, _, rfl, rfl⟩
  obtain ⟨i, j, rfl, rfl⟩ := h
  rw [vw_int hx, vw_int hy]
  exact e
@[simp] theorem z_addI {i j : Int} {M : Mp} : fAddI (.int i) (.int j) M = some (.int (i + j)) := of_eq_true (eq_self _)
@[simp] theorem z_subI {i j : Int} {M : Mp} : fSubI (.int i) (.int j) M = some (.int (i - j)) := of_eq_true (eq_self _)
theorem sortset_ints {M : Mp} {ks : List Int} (h : ks.length < 64) : gSortSet [.lst (ks.map D.int)] M = some (.lst ((sortI ks).map D.int)) := by
  simp only [gSortSet, itemsL, items, Option.bind_some, List.length_map, if_pos h, nums_map (fun x => x), List.map_id']
end DL

/-! More reading rules. -/
namespace DL
open PySem PySem.Spec PyProof.Rows L2
section
variable {A : FT} {u : FS} {k : Kt}
/-- while: what holds at each turn, with what grows less -/
theorem okO.while (I : Nat → Fs → Prop) (step : ∀ n S, I n S → okR (A S) (fun b S1 => if b = true then okO (u S1) { k with nx := fun S2 => ∃ m, m < n ∧ I m S2, ct := fun S2 => ∃ m, m < n ∧ I m S2, bk := k.nx } else k.nx S1) noE) :
    ∀ (N n : Nat) (S : Fs), I n S → n < N → okO (whileF A u N S) k
  | 0, n, S, h, hN => absurd hN (Nat.not_lt_zero _)
  | N + 1, n, S, h, hN => by
    obtain ⟨b, S1, e, q⟩ := (step n S h).e
    have e' : whileF A u (N + 1) S = if b = true then (match u S1 with
      | .nx S2 => whileF A u N S2
      | .ct S2 => whileF A u N S2
      | .bk S2 => .nx S2
      | o => o) else .nx S1 := by
      show (A S).out _ = _
      rw [e]; rfl
    rw [e']
    split
    · rename_i hb
      rw [if_pos hb] at q
      cases e2 : u S1 with
      | nx S2 =>
        rw [e2] at q
        obtain ⟨m, hm, hI⟩ := q
        exact okO.while I step N m S2 hI (by omega)
      | ct S2 =>
        rw [e2] at q
        obtain ⟨m, hm, hI⟩ := q
        exact okO.while I step N m S2 hI (by omega)
      | bk S2 => rw [e2] at q; exact q
      | rt d S2 => rw [e2] at q; exact q
      | ro d S2 => rw [e2] at q; exact q
      | ex c fs S2 => rw [e2] at q; exact q
      | un => rw [e2] at q; exact q
    · rename_i hb
      rw [if_neg hb] at q
      exact q
@[simp] theorem ok_while {N : Nat} {s : SV} {q : Fs} : okO (nWhile N A u (s :: q)) k = okO (whileF A u N (s :: q)) k := rfl
end
/-! ### equal data -/
mutual
theorem deq_self : ∀ (d : D) (n : Nat), shp n d = true → deq d d = true
  | .non, _, _ => rfl
  | .bl b, _, _ => by simp only [deq]; cases b <;> rfl
  | .int i, _, _ => by simp only [deq]; exact beq_self_eq_true i
  | .str s, _, _ => by simp only [deq]; exact beq_self_eq_true s
  | .tup xs, 0, h => by simp [shp] at h
  | .lst xs, 0, h => by simp [shp] at h
  | .scr xs, 0, h => by simp [shp] at h
  | .tup xs, n + 1, h => by simp only [deq]; exact deqs_self xs n (by simpa only [shp] using h)
  | .lst xs, n + 1, h => by simp only [deq]; exact deqs_self xs n (by simpa only [shp] using h)
  | .scr xs, n + 1, h => by simp only [deq]; exact deqs_self xs n (by simpa only [shp] using h)
  | .ref _, n, h => by cases n <;> simp [shp] at h
  | .ty _, n, h => by cases n <;> simp [shp] at h
  | .dk _ _, n, h => by cases n <;> simp [shp] at h
theorem deqs_self : ∀ (xs : List D) (n : Nat), xs.all (shp n) = true → deqs xs xs = true
  | [], _, _ => rfl
  | x :: xs, n, h => by
    simp only [List.all_cons, Bool.and_eq_true] at h
    simp only [deqs, deq_self x n h.1, deqs_self xs n h.2, Bool.and_self]
end
theorem deref_shp {M : Mp} {d : D} {n : Nat} (h : shp n d = true) : deref M d = d := by
  cases d <;> first | rfl | (cases n <;> simp [shp] at h)
theorem fEq_self {M : Mp} {d : D} (h : shp 64 d = true) : fEq d d M = some (.bl true) := by
  cases d with
  | str a => simp
  | _ => simp only [fEq, deref_shp h, h, and_self, if_true, deq_self _ 64 h]
theorem fNe_self {M : Mp} {d : D} (h : shp 64 d = true) : fNe d d M = some (.bl false) := by
  cases d with
  | str a => simp
  | _ => simp only [fNe, deref_shp h, h, and_self, if_true, deq_self _ 64 h, Bool.not_true]
@[simp] theorem shp_non {n : Nat} : shp n .non = true := by cases n <;> rfl
@[simp] theorem shp_bl {n : Nat} {b : Bool} : shp n (.bl b) = true := by cases n <;> rfl
@[simp] theorem shp_int {n : Nat} {i : Int} : shp n (.int i) = true := by cases n <;> rfl
@[simp] theorem shp_tup {n : Nat} {xs : List D} : shp (n + 1) (.tup xs) = xs.all (shp n) := by simp only [shp]
@[simp] theorem shp_lst {n : Nat} {xs : List D} : shp (n + 1) (.lst xs) = xs.all (shp n) := by simp only [shp]
/-! ### sorted, max -/
theorem dle_int (a b : Int) : dle (.int a) (.int b) = decide (a ≤ b) := by
  unfold dle
  rw [PySem.W.dataLe_eq]
  simp only [pyT, cond_false, PySem.W.dataLt_int]
  by_cases h : b < a
  · rw [decide_eq_true h, decide_eq_false (by omega)]; rfl
  · rw [decide_eq_false h, decide_eq_true (by omega)]; rfl
theorem sorted_le {M : Mp} {ns : List Int} (h : ns.Pairwise (· ≤ ·)) : gSorted [.lst (ns.map D.int)] M = some (.lst (ns.map D.int)) := by
  have e : (ns.map D.int).mergeSort dle = ns.map D.int := List.mergeSort_of_pairwise (by
    rw [List.pairwise_map]
    exact h.imp fun hab => by rw [dle_int]; exact decide_eq_true hab)
  have a1 : ((ns.map D.int).all (shp 60) && alikeB (ns.map D.int) && sortB (ns.map D.int)) = true := by
    simp [alikeB, sortB, pyT, PySem.W.alike]
  simp only [gSorted, itemsL, items, Option.bind_some, a1, if_true, e]
@[simp] theorem z_maxL {M : Mp} {xs : List D} : gMax [.lst xs] M = (nums xs).bind fun bs => if bs.isEmpty then none else some (.int (maxI bs)) := of_eq_true (eq_self _)
@[simp] theorem z_minL {M : Mp} {xs : List D} : gMin [.lst xs] M = (nums xs).bind fun bs => if bs.isEmpty then none else some (.int (minI bs)) := of_eq_true (eq_self _)
@[simp] theorem z_reprB {M : Mp} {b : Bool} : gRepr [.bl b] M = some (.str (if b then "True" else "False")) := of_eq_true (eq_self _)
@[simp] theorem z_reprN {M : Mp} : gRepr [.non] M = some (.str "None") := of_eq_true (eq_self _)
/-! ### words of errors -/
theorem tryE_rt {l : List Str} {i : Nat} {u : FS} {h : Addr → Str → FS} {S S1 : Fs} {c : Str} {w : D} {n : Nat} (e : u S = .ex c [] S1) (hc : c ∈ l)
    (hh : ∀ a, okO (h a c (setS S1 i (.va (.ref a)))) ⟨fun _ => False, fun d S => d = w ∧ S.length = n, noE, fun _ => False, fun _ => False, fun _ _ => False⟩) : nTryE l i u h S = .rt w (S0 n) := by
  have key : ∀ a, goneO i (h a c (setS S1 i (.va (.ref a)))) = .rt w (S0 n) := fun a => by
    have q := hh a
    cases e : h a c (setS S1 i (.va (.ref a))) <;> rw [e] at q <;> first | exact q.elim | skip
    obtain ⟨rfl, rfl⟩ := q
    rfl
  unfold nTryE
  rw [e]
  dsimp only
  rw [if_pos hc]
  have : (fun a => goneO i (h a c (setS S1 i (.va (.ref a))))) = fun _ => .rt w (S0 n) := funext key
  rw [this, allA_const]
theorem outW_seq {f g : FS} {S S2 : Fs} {w : D} (h : f S = .rt w S2) : outW (nSeq f g S) = some w := by
  unfold nSeq
  rw [h]; rfl
section
variable {l : List Str} {a : Addr} {x y : Str} {i : Nat} {s : SV} {q : Fs} {g : List Bool → Bool → Option D} {va : FV} {fa : FAs}
@[simp] theorem f_isE : fIsE l a x i y (s :: q) = (match getS (s :: q) i with
  | .va (.ref b) => if b = a ∧ x ∈ l ∧ y ∈ l then .ok (.bl (decide (x = y))) (s :: q) else .un
  | _ => .un) := of_eq_true (eq_self _)
@[simp] theorem f_isV : fIsV l a x i (s :: q) = (match getS (s :: q) i with
  | .va (.ref b) => if b = a ∧ x ∈ l then .ok (.bl true) (s :: q) else .un
  | _ => .un) := of_eq_true (eq_self _)
@[simp] theorem f_meB : fMeB g va fa (s :: q) = (va (s :: q)).bind fun v S1 => R.opt ((look S1 v).bind (itemsL Mn)) fun _ => (fa S1).bind fun ds S2 => R.opt ((look S2 v).bind (itemsL Mn)) fun xs => R.opt (flags xs) fun bs => match ds with
  | [.bl k] => R.of (g bs k) S2
  | _ => .un := of_eq_true (eq_self _)
@[simp] theorem f_flL {xs : List D} : itemsL Mn (.lst xs) = some xs := of_eq_true (eq_self _)
@[simp] theorem flags_nil : flags [] = some [] := of_eq_true (eq_self _)
@[simp] theorem flags_cons {b : Bool} {r : List D} : flags (.bl b :: r) = (flags r).map (b :: ·) := of_eq_true (eq_self _)
end
section
variable {lo : Option Nat} {a : FV} {s : SV} {q : Fs} {xs : List D} {M : Mp}
@[simp] theorem f_rev : fRev lo a (s :: q) = (a (s :: q)).bind fun v S1 => R.opt (look S1 v) fun d => R.of (revD Mn lo d) S1 := of_eq_true (eq_self _)
@[simp] theorem revD_tup : revD M none (.tup xs) = some (.tup xs.reverse) := by
  simp [revD, revN]
@[simp] theorem revD_lst : revD M none (.lst xs) = some (.lst xs.reverse) := of_eq_true (eq_self _)
end
@[simp] theorem f_enum {vs : FVs} {s : SV} {q : Fs} : fEnum vs (s :: q) = (vs (s :: q)).bind fun vs S1 => match vs with
  | [v] => R.opt (src S1 v) fun xs => .ok (enumD 0 xs) S1
  | _ => .un := of_eq_true (eq_self _)
@[simp] theorem f_zip2 {vs : FVs} {s : SV} {q : Fs} : fZip2 vs (s :: q) = (vs (s :: q)).bind fun vs S1 => match vs with
  | [v, w] => R.opt (src S1 v) fun xs => R.opt (src S1 w) fun ys => .ok (pairs xs ys) S1
  | _ => .un := of_eq_true (eq_self _)
end DL

namespace K53
open PySem PySem.Spec PyProof.Rows L2 DL
def top (i : Nat) : Stmt := PySem.Challenge.pw_trackhouse_k53_whole_windows_and_least_m.main.body.getD i (.Pass ⟨0, 0, 0, 0⟩)
abbrev s_is_integer : Stmt := top 1
abbrev s_is_within : Stmt := top 2
abbrev s_is_sized : Stmt := top 3
abbrev s_check_minutes : Stmt := top 25
abbrev s_is_bound : Stmt := top 26
abbrev s_check_bounds : Stmt := top 27
abbrev s_check_timetable : Stmt := top 28
abbrev s_possible_turns : Stmt := top 29
abbrev s_links_of : Stmt := top 30
abbrev s_settled : Stmt := top 31
abbrev s_next_bound : Stmt := top 32
abbrev s_put_together : Stmt := top 33
abbrev s_raw_told : Stmt := top 34
abbrev s_round_told : Stmt := top 35
abbrev s_windows : Stmt := top 36
abbrev s_least_minutes : Stmt := top 37
abbrev s_needed_bounds : Stmt := top 38
abbrev s__law_hand : Stmt := top 40
abbrev s__law_mixed : Stmt := top 41
abbrev s__law_draw : Stmt := top 42
abbrev s__law_any : Stmt := top 43
abbrev s__law_asked : Stmt := top 44
abbrev s__law_keeps : Stmt := top 45
abbrev s__law_all_times : Stmt := top 46
abbrev s__law_kept : Stmt := top 47
abbrev s__law_no_bounds : Stmt := top 48
abbrev s__law_no_minutes : Stmt := top 49
abbrev s__law_no_many : Stmt := top 50
abbrev s__law_word_of : Stmt := top 51
abbrev s__law_least : Stmt := top 52
abbrev s__law_is_right : Stmt := top 53
abbrev s_law : Stmt := top 54
def hs__law_word_of : List WH := [("NoMinutes", ["NoMinutes"], ["TrackError", "NoBounds", "NoEvent", "NoEvents", "TooMany"], "minutes"), ("NoEvents", ["NoEvents"], ["TrackError", "NoBounds", "NoEvent", "NoMinutes", "TooMany"], "events"), ("NoBounds", ["NoBounds"], ["TrackError", "NoEvent", "NoEvents", "NoMinutes", "TooMany"], "bounds"), ("NoEvent", ["NoEvent"], ["TrackError", "NoBounds", "NoEvents", "NoMinutes", "TooMany"], "event"), ("TrackError", ["TrackError", "NoBounds", "NoEvent", "NoEvents", "NoMinutes", "TooMany"], [], "other")]
def wo__law_word_of : D → Option D := fun _ => some (.str "let")
def wx__law_word_of : Str → DFs → Option D := fun c _ => wordX hs__law_word_of c
structure Bs (K : PySem.W.Frag) (mg : Str → Option Value) : Prop where
  b_abs : mg "abs" = none
  b_all : mg "all" = none
  b_any : mg "any" = none
  b_bool : mg "bool" = none
  b_enumerate : mg "enumerate" = none
  b_int : mg "int" = none
  b_isinstance : mg "isinstance" = none
  b_len : mg "len" = none
  b_list : mg "list" = none
  b_min : mg "min" = none
  b_range : mg "range" = none
  b_set : mg "set" = none
  b_sorted : mg "sorted" = none
  b_tuple : mg "tuple" = none
  c_HIGH : ∃ t, mg "HIGH" = some (.str "high" t)
  c_LEAST_MINUTES : ∃ t, mg "LEAST_MINUTES" = some (.int 2 t)
  c_LOW : ∃ t, mg "LOW" = some (.str "low" t)
  c_MOST_BOUNDS : ∃ t, mg "MOST_BOUNDS" = some (.int 10 t)
  c_MOST_EVENTS : ∃ t, mg "MOST_EVENTS" = some (.int 6 t)
  c_MOST_LONG : ∃ t, mg "MOST_LONG" = some (.int 200 t)
  c_MOST_MINUTES : ∃ t, mg "MOST_MINUTES" = some (.int 60 t)
  c_MOST_TREES : ∃ t, mg "MOST_TREES" = some (.int 3000 t)
  c_RING : ∃ t, mg "RING" = some (.str "ring" t)
  c_TIMES : ∃ t, mg "TIMES" = some (.str "times" t)
  c_TREE : ∃ t, mg "TREE" = some (.str "tree" t)
  c_TURNS : ∃ t, mg "TURNS" = some (.str "turns" t)
  c_WIDE : ∃ t, mg "WIDE" = some (.str "wide" t)
  x_NoBounds : ExcAt K mg "NoBounds"
  x_NoEvent : ExcAt K mg "NoEvent"
  x_NoEvents : ExcAt K mg "NoEvents"
  x_NoMinutes : ExcAt K mg "NoMinutes"
  x_TrackError : ExcAt K mg "TrackError"
  w__law_word_of : WHok K hs__law_word_of
def f_is_integer : FS := (nRet (fAnd (fFn gIsi (vCons (fSo (fVar 0)) (vCons (fSo (fC (.ty "int"))) vNil))) (fNot (fFn gIsi (vCons (fSo (fVar 0)) (vCons (fSo (fC (.ty "bool"))) vNil))))))
def F_is_integer : FF := runF 1 f_is_integer
def f_is_within : FS := (nRet (fAnd (fCall F_is_integer (aCons (fVar 0) aNil)) (fChain fLeD fLeD (fSo (fVar 1)) (fSo (fVar 0)) (fSo (fVar 2)))))
def F_is_within : FF := runF 3 f_is_within
def f_check_minutes : FS := (nIf (tN (tT (fCall F_is_within (aCons (fVar 0) (aCons (fC (.int 2)) (aCons (fC (.int 60)) aNil)))))) (nRaise "NoMinutes") nNext)
def F_check_minutes : FF := runF 1 f_check_minutes
def f_is_sized : FS := (nRet (fAnd (fFn gIsi (vCons (fSo (fVar 0)) (vCons (fSo (fC (.ty "tuple"))) vNil))) (fChain fLeD fLeD (fSo (fVar 1)) (fSo (fFn gLen (vCons (fSo (fVar 0)) vNil))) (fSo (fVar 2)))))
def F_is_sized : FF := runF 3 f_is_sized
def f_is_bound : FS := (nSeq (nIf (tO (tN (tT (fCall F_is_sized (aCons (fVar 1) (aCons (fC (.int 4)) (aCons (fC (.int 4)) aNil)))))) (tN (tT (fFn gAll (vCons (fSo (toL (fComp (fSeq (fSo (fPart (fSo (fVar 1)) pNone (pSome (fC (.int 2)))))) (fgVar 2) tY (fCall F_is_within (aCons (fVar 2) (aCons (fC (.int 0)) (aCons (fOp fSub (fSo (fVar 0)) (fSo (fC (.int 1)))) aNil)))) [2]))) vNil))))) (nRet (fC (.bl false))) nNext) (nRet (fAnd (fOp fNe (fSo (fOp fIx (fSo (fVar 1)) (fSo (fC (.int 0))))) (fSo (fOp fIx (fSo (fVar 1)) (fSo (fC (.int 1)))))) (fAnd (fCall F_is_within (aCons (fOp fIx (fSo (fVar 1)) (fSo (fC (.int 2)))) (aCons (fC (.int 0)) (aCons (fC (.int 200)) aNil)))) (fCall F_is_within (aCons (fOp fIx (fSo (fVar 1)) (fSo (fC (.int 3)))) (aCons (fOp fIx (fSo (fVar 1)) (fSo (fC (.int 2)))) (aCons (fC (.int 200)) aNil))))))))
def F_is_bound : FF := runF 3 f_is_bound
def f_check_bounds : FS := (nSeq (nIf (tN (tT (fCall F_is_within (aCons (fVar 0) (aCons (fC (.int 1)) (aCons (fC (.int 6)) aNil)))))) (nRaise "NoEvents") nNext) (nIf (tO (tN (tT (fCall F_is_sized (aCons (fVar 1) (aCons (fC (.int 0)) (aCons (fC (.int 10)) aNil)))))) (tN (tT (fFn gAll (vCons (fSo (toL (fComp (fSeq (fSo (fVar 1))) (fgVar 2) tY (fCall F_is_bound (aCons (fVar 0) (aCons (fVar 2) aNil))) [2]))) vNil))))) (nRaise "NoBounds") nNext))
def F_check_bounds : FF := runF 3 f_check_bounds
def f_check_timetable : FS := (nSeq (nDrop (fCall F_check_minutes (aCons (fVar 0) aNil))) (nDrop (fCall F_check_bounds (aCons (fVar 1) (aCons (fVar 2) aNil)))))
def F_check_timetable : FF := runF 3 f_check_timetable
def f_possible_turns : FS := (nSeq (nAsg (fOp fSub (fSo (fC (.int 0))) (fSo (fOp fDiv (fSo (fOp fSub (fSo (fOp fSub (fSo (fVar 0)) (fSo (fC (.int 1))))) (fSo (fOp fIx (fSo (fVar 1)) (fSo (fC (.int 2))))))) (fSo (fVar 0))))) (fgVar 2)) (nRet (fRgL (fVar 2) (fOp fAdd (fSo (fOp fDiv (fSo (fOp fSub (fSo (fOp fAdd (fSo (fOp fIx (fSo (fVar 1)) (fSo (fC (.int 3))))) (fSo (fVar 0)))) (fSo (fC (.int 1))))) (fSo (fVar 0)))) (fSo (fC (.int 1)))))))
def F_possible_turns : FF := runF 3 f_possible_turns
def f_links_of : FS := (nSeq (nAsgO (fLstO aNil) 4) (nSeq (nFor (fSeq (fSo (fVar 3))) (fgTup 2 (fgCons (fgVar 5) (fgCons (fgVar 6) fgNil))) (nSeq (nAsg (fOp fIx (fSo (fVar 2)) (fSo (fVar 5))) (fgTup 4 (fgCons (fgVar 7) (fgCons (fgVar 8) (fgCons (fgVar 9) (fgCons (fgVar 10) fgNil)))))) (nSeq (nDrop (fApp 4 (aCons (fTup (aCons (fVar 7) (aCons (fVar 8) (aCons (fOp fSub (fSo (fVar 10)) (fSo (fOp fMul (fSo (fVar 6)) (fSo (fVar 0))))) (aCons (fTup (aCons (fC (.str "high")) (aCons (fVar 5) aNil))) aNil))))) aNil))) (nDrop (fApp 4 (aCons (fTup (aCons (fVar 8) (aCons (fVar 7) (aCons (fOp fSub (fSo (fOp fMul (fSo (fVar 6)) (fSo (fVar 0)))) (fSo (fVar 9))) (aCons (fTup (aCons (fC (.str "low")) (aCons (fVar 5) aNil))) aNil))))) aNil)))))) (nSeq (nFor (fRange1 (aCons (fVar 1) aNil)) (fgVar 7) (nDrop (fExt 4 (vCons (fSo (toL (fComp (fRange1 (aCons (fVar 1) aNil)) (fgVar 8) (tT (fOp fNe (fSo (fVar 8)) (fSo (fVar 7)))) (fTup (aCons (fVar 7) (aCons (fVar 8) (aCons (fOp fSub (fSo (fVar 0)) (fSo (fC (.int 1)))) (aCons (fTup (aCons (fC (.str "wide")) (aCons (fVar 7) (aCons (fVar 8) aNil)))) aNil))))) [8]))) vNil)))) (nFrz 4 (nRet (fVar 4))))))
def F_links_of : FF := runF 11 f_links_of
def f_settled : FS := (nSeq (nSeq (nAsgO (fOpO fMul (fSo (fLst (aCons (fC (.int 0)) aNil))) (fSo (fVar 0))) 2) (nSeq (nAsgO (fNr (fOpO fMul (fSo (fLst (aCons (fC .non) aNil))) (fSo (fVar 0)))) 3) (nAsg (fNr (fC .non)) (fgVar 4)))) (nSeq (nFor (fRange1 (aCons (fVar 0) aNil)) (fgVar 5) (nSeq (nAsg (fC .non) (fgVar 4)) (nSeq (nFor (fSeq (fSo (fVar 1))) (fgVar 6) (nIf (tT (fOp fLtD (fSo (fOp fAdd (fSo (fOp fIx (fSl 2) (fSo (fOp fIx (fSo (fVar 6)) (fSo (fC (.int 0))))))) (fSo (fOp fIx (fSo (fVar 6)) (fSo (fC (.int 2))))))) (fSo (fOp fIx (fSl 2) (fSo (fOp fIx (fSo (fVar 6)) (fSo (fC (.int 1))))))))) (nSeq (nAsg (fTup (aCons (fOp fAdd (fSo (fOp fIx (fSl 2) (fSo (fOp fIx (fSo (fVar 6)) (fSo (fC (.int 0))))))) (fSo (fOp fIx (fSo (fVar 6)) (fSo (fC (.int 2)))))) (aCons (fVar 6) aNil))) (fgTup 2 (fgCons (fgSub 2 (fOp fIx (fSo (fVar 6)) (fSo (fC (.int 1))))) (fgCons (fgSub 3 (fOp fIx (fSo (fVar 6)) (fSo (fC (.int 1))))) fgNil)))) (nAsg (fOp fIx (fSo (fVar 6)) (fSo (fC (.int 1)))) (fgVar 4))) nNext)) (nIf (tT (fOp fIs (fSo (fVar 4)) (fSo (fC .non)))) (nFrz 2 (nRet (fTup (aCons (fVar 2) (aCons (fC .non) aNil))))) nNext)))) (nSeq (nFor (fRange1 (aCons (fVar 0) aNil)) (fgVar 5) (nAsg (fOp fIx (fSo (fOp fIx (fSl 3) (fSo (fVar 4)))) (fSo (fC (.int 0)))) (fgVar 4))) (nSeq (nSeq (nAsgO (fLstO (aCons (fOp fIx (fSo (fOp fIx (fSl 3) (fSo (fVar 4)))) (fSo (fC (.int 3)))) aNil)) 7) (nAsg (fNr (fOp fIx (fSo (fOp fIx (fSl 3) (fSo (fVar 4)))) (fSo (fC (.int 0))))) (fgVar 8))) (nSeq (nWhile wFuel (tT (fOp fNe (fSo (fVar 8)) (fSo (fVar 4)))) (nSeq (nDrop (fApp 7 (aCons (fOp fIx (fSo (fOp fIx (fSl 3) (fSo (fVar 8)))) (fSo (fC (.int 3)))) aNil))) (nAsg (fOp fIx (fSo (fOp fIx (fSl 3) (fSo (fVar 8)))) (fSo (fC (.int 0)))) (fgVar 8)))) (nRet (fTup (aCons (fC .non) (aCons (fFn gTuple (vCons (fSo (fRev none (fSl 7))) vNil)) aNil)))))))))
def F_settled : FF := runF 9 f_settled
def f_next_bound : FS := (nSeq (nAsg (toL (fComp (fSeq (fSo (fVar 2))) (fgTup 2 (fgCons (fgVar 4) (fgCons (fgVar 6) fgNil))) tY (fVar 4) [4, 6])) (fgVar 3)) (nSeq (nFor (fEnum (vCons (fSo (fVar 1)) vNil)) (fgTup 2 (fgCons (fgVar 4) (fgCons (fgVar 5) fgNil))) (nIf (tA (tT (fOp fNotIn (fSo (fVar 4)) (fSo (fVar 3)))) (tT (fOp fLtD (fSo (fOp fSub (fSo (fOp fIx (fSo (fVar 5)) (fSo (fC (.int 3))))) (fSo (fOp fIx (fSo (fVar 5)) (fSo (fC (.int 2))))))) (fSo (fOp fSub (fSo (fVar 0)) (fSo (fC (.int 1)))))))) (nRet (fVar 4)) nNext)) (nRet (fC .non))))
def F_next_bound : FF := runF 7 f_next_bound
def f_put_together : FS := (nSeq (nAsgO (fOpO fMul (fSo (fLst (aCons (fC .non) aNil))) (fSo (fFn gLen (vCons (fSo (fVar 0)) vNil)))) 1) (nSeq (nFor (fRangeN (aCons (fOp fSub (fSo (fFn gLen (vCons (fSo (fVar 0)) vNil))) (fSo (fC (.int 1)))) (aCons (fNeg (fC (.int 1))) (aCons (fNeg (fC (.int 1))) aNil)))) (fgVar 2) (nSeq (nAsg (fOp fIx (fSo (fVar 0)) (fSo (fVar 2))) (fgVar 3)) (nIf (tT (fOp fEq (fSo (fFn gLen (vCons (fSo (fVar 3)) vNil))) (fSo (fC (.int 1))))) (nAsg (fTup (aCons (fC (.str "ring")) (aCons (fOp fIx (fSo (fVar 3)) (fSo (fC (.int 0)))) aNil))) (fgSub 1 (fVar 2))) (nAsg (fTup (aCons (fC (.str "turns")) (aCons (fOp fIx (fSo (fVar 3)) (fSo (fC (.int 0)))) (aCons (fFn gTuple (vCons (fSo (toL (fComp (fSeq (fSo (fOp fIx (fSo (fVar 3)) (fSo (fC (.int 1)))))) (fgVar 4) tY (fOp fIx (fSl 1) (fSo (fVar 4))) [4]))) vNil)) aNil)))) (fgSub 1 (fVar 2)))))) (nRet (fOp fIx (fSl 1) (fSo (fC (.int 0)))))))
def F_put_together : FF := runF 5 f_put_together
def f_raw_told : FS := (nSeq (nSeq (nAsgO (fLstO (aCons (fC .non) aNil)) 3) (nSeq (nAsgO (fNr (fLstO (aCons (fTup aNil) aNil))) 4) (nAsgO (fNr (fLstO (aCons (fC (.int 0)) aNil))) 5))) (nSeq (nWhile wFuel (tT (fOp fGtD (fSo (fFn gLen (vCons (fSl 5) vNil))) (fSo (fC (.int 0))))) (nSeq (nAsg (fPop0 5) (fgVar 6)) (nSeq (nAsg (fOp fIx (fSl 4) (fSo (fVar 6))) (fgVar 7)) (nSeq (nAsg (fCall F_settled (aCons (fVar 1) (aCons (fCall F_links_of (aCons (fVar 0) (aCons (fVar 1) (aCons (fVar 2) (aCons (fVar 7) aNil))))) aNil))) (fgTup 2 (fgCons (fgVar 8) (fgCons (fgVar 9) fgNil)))) (nSeq (nAsg (fCall F_next_bound (aCons (fVar 0) (aCons (fVar 2) (aCons (fVar 7) aNil)))) (fgVar 10)) (nIf (tT (fOp fIsNot (fSo (fVar 9)) (fSo (fC .non)))) (nAsg (fTup (aCons (fVar 9) aNil)) (fgSub 3 (fVar 6))) (nIf (tT (fOp fIs (fSo (fVar 10)) (fSo (fC .non)))) (nRet (fTup (aCons (fC (.str "times")) (aCons (fFn gTuple (vCons (fSo (toL (fComp (fSeq (fSo (fVar 8))) (fgVar 13) tY (fOp fSub (fSo (fVar 13)) (fSo (fFn gMin (vCons (fSo (fVar 8)) vNil)))) [13]))) vNil)) aNil)))) (nSeq (nAsg (fCall F_possible_turns (aCons (fVar 0) (aCons (fOp fIx (fSo (fVar 2)) (fSo (fVar 10))) aNil))) (fgVar 11)) (nSeq (nAsg (fRgL (fFn gLen (vCons (fSl 3) vNil)) (fOp fAdd (fSo (fFn gLen (vCons (fSl 3) vNil))) (fSo (fFn gLen (vCons (fSo (fVar 11)) vNil))))) (fgVar 12)) (nSeq (nAsg (fTup (aCons (fVar 10) (aCons (fVar 12) aNil))) (fgSub 3 (fVar 6))) (nSeq (nDrop (fExt 3 (vCons (fSo (fOp fMul (fSo (fLst (aCons (fC .non) aNil))) (fSo (fFn gLen (vCons (fSo (fVar 11)) vNil))))) vNil))) (nSeq (nDrop (fExt 4 (vCons (fSo (toL (fComp (fSeq (fSo (fVar 11))) (fgVar 14) tY (fOp fAdd (fSo (fVar 7)) (fSo (fTup (aCons (fTup (aCons (fVar 10) (aCons (fVar 14) aNil))) aNil)))) [14]))) vNil))) (nSeq (nDrop (fExt 5 (vCons (fSo (fRev none (fSo (fVar 12)))) vNil))) (nIf (tT (fOp fGtD (fSo (fFn gLen (vCons (fSl 3) vNil))) (fSo (fC (.int 3000))))) nNever nNext)))))))))))))) (nFrz 3 (nRet (fTup (aCons (fC (.str "tree")) (aCons (fCall F_put_together (aCons (fVar 3) aNil)) aNil)))))))
def F_raw_told : FF := runF 15 f_raw_told
def f_windows : FS := (nSeq (nDrop (fCall F_check_timetable (aCons (fVar 0) (aCons (fVar 1) (aCons (fVar 2) aNil))))) (nSeq (nIf (tN (tT (fCall F_is_within (aCons (fVar 3) (aCons (fC (.int 0)) (aCons (fOp fSub (fSo (fVar 1)) (fSo (fC (.int 1)))) aNil)))))) (nRaise "NoEvent") nNext) (nSeq (nIf (tT (fOp fEq (fSo (fVar 3)) (fSo (fC (.int 0))))) (nRet (fIf (tT (fOp fEq (fSo (fOp fIx (fSo (fCall F_raw_told (aCons (fVar 0) (aCons (fVar 1) (aCons (fVar 2) aNil))))) (fSo (fC (.int 0))))) (fSo (fC (.str "times"))))) (fTup (aCons (fC (.int 0)) aNil)) (fTup aNil))) nNext) (nSeq (nAsgO (fLstO aNil) 4) (nSeq (nFor (fRange1 (aCons (fVar 0) aNil)) (fgVar 5) (nIf (tT (fOp fEq (fSo (fOp fIx (fSo (fCall F_raw_told (aCons (fVar 0) (aCons (fVar 1) (aCons (fOp fAdd (fSo (fVar 2)) (fSo (fTup (aCons (fTup (aCons (fC (.int 0)) (aCons (fVar 3) (aCons (fVar 5) (aCons (fVar 5) aNil))))) aNil)))) aNil))))) (fSo (fC (.int 0))))) (fSo (fC (.str "times"))))) (nDrop (fApp 4 (aCons (fVar 5) aNil))) nNext)) (nRet (fFn gTuple (vCons (fSl 4) vNil))))))))
def F_windows : FF := runF 6 f_windows
def f_least_minutes : FS := (nSeq (nDrop (fCall F_check_bounds (aCons (fVar 0) (aCons (fVar 1) aNil)))) (nSeq (nFor (fRange2 (aCons (fC (.int 2)) (aCons (fOp fAdd (fSo (fC (.int 60))) (fSo (fC (.int 1)))) aNil))) (fgVar 2) (nIf (tT (fOp fEq (fSo (fOp fIx (fSo (fCall F_raw_told (aCons (fVar 2) (aCons (fVar 0) (aCons (fVar 1) aNil))))) (fSo (fC (.int 0))))) (fSo (fC (.str "times"))))) (nRet (fVar 2)) nNext)) (nRet (fC .non))))
def F_least_minutes : FF := runF 3 f_least_minutes
def f_needed_bounds : FS := (nSeq (nDrop (fCall F_check_timetable (aCons (fVar 0) (aCons (fVar 1) (aCons (fVar 2) aNil))))) (nSeq (nIf (tT (fOp fEq (fSo (fOp fIx (fSo (fCall F_raw_told (aCons (fVar 0) (aCons (fVar 1) (aCons (fVar 2) aNil))))) (fSo (fC (.int 0))))) (fSo (fC (.str "times"))))) (nRet (fTup aNil)) nNext) (nSeq (nAsgO (fLstO aNil) 3) (nSeq (nFor (fRange1 (aCons (fFn gLen (vCons (fSo (fVar 2)) vNil)) aNil)) (fgVar 4) (nIf (tT (fOp fEq (fSo (fOp fIx (fSo (fCall F_raw_told (aCons (fVar 0) (aCons (fVar 1) (aCons (fOp fAdd (fSo (fPart (fSo (fVar 2)) pNone (pSome (fVar 4)))) (fSo (fPart (fSo (fVar 2)) (pSome (fOp fAdd (fSo (fVar 4)) (fSo (fC (.int 1))))) pNone))) aNil))))) (fSo (fC (.int 0))))) (fSo (fC (.str "times"))))) (nDrop (fApp 3 (aCons (fVar 4) aNil))) nNext)) (nRet (fFn gTuple (vCons (fSl 3) vNil)))))))
def F_needed_bounds : FF := runF 5 f_needed_bounds
def f__law_hand : FS := (nRetO (fLstO (aCons (toL (fComp (fSeq (fSo (fPart (fSo (fVar 0)) pNone (pSome (fC (.int 63)))))) (fgVar 1) tY (fFn gInt (vCons (fSo (fVar 1)) vNil)) [1])) (aCons (fC (.int 0)) (aCons (fC (.int 0)) (aCons (fC (.int 0)) aNil))))))
def F__law_hand : FF := runO 2 f__law_hand
def f__law_mixed : FS := (nSeq (nAsg (fOp fMod (fSo (fFn gInt (vCons (fSo (fOp fMul (fSo (fOp fAdd (fSo (fOp fAdd (fSo (fOp fMod (fSo (fFn gInt (vCons (fSo (fVar 0)) vNil))) (fSo (fC (.int 2147483647))))) (fSo (fOp fMul (fSo (fC (.int 7919))) (fSo (fVar 1)))))) (fSo (fC (.int 1))))) (fSo (fC (.int 48271))))) vNil))) (fSo (fC (.int 2147483647)))) (fgVar 2)) (nSeq (nAsg (fOp fMod (fSo (fFn gInt (vCons (fSo (fOp fMul (fSo (fVar 2)) (fSo (fOp fAdd (fSo (fOp fDiv (fSo (fVar 2)) (fSo (fC (.int 1009))))) (fSo (fC (.int 69621))))))) vNil))) (fSo (fC (.int 2147483647)))) (fgVar 2)) (nRet (fOp fDiv (fSo (fOp fMod (fSo (fFn gInt (vCons (fSo (fOp fMul (fSo (fVar 2)) (fSo (fOp fAdd (fSo (fOp fDiv (fSo (fVar 2)) (fSo (fC (.int 2003))))) (fSo (fC (.int 40692))))))) vNil))) (fSo (fC (.int 2147483399))))) (fSo (fC (.int 16)))))))
def F__law_mixed : FF := runF 3 f__law_mixed
def f__law_draw : FS := (nSeq (nAsg (fOp fAdd (fSo (fOp fIx (fSl 0) (fSo (fC (.int 3))))) (fSo (fC (.int 1)))) (fgSub 0 (fC (.int 3)))) (nSeq (nIf (tT (fOp fGtD (fSo (fOp fIx (fSl 0) (fSo (fC (.int 2))))) (fSo (fC (.int 0))))) (nSeq (nAsg (fOp fMod (fSo (fFn gInt (vCons (fSo (fOp fIx (fSl 0) (fSo (fC (.int 2))))) vNil))) (fSo (fVar 1))) (fgVar 2)) (nSeq (nAsg (fOp fDiv (fSo (fOp fIx (fSl 0) (fSo (fC (.int 2))))) (fSo (fVar 1))) (fgSub 0 (fC (.int 2)))) (nRet (fVar 2)))) nNext) (nSeq (nPar 3 4 (aCons (fOp fIx (fSl 0) (fSo (fC (.int 0)))) (aCons (fOp fIx (fSl 0) (fSo (fC (.int 1)))) aNil))) (nSeq (nAsg (fOp fAdd (fSo (fVar 4)) (fSo (fC (.int 1)))) (fgSub 0 (fC (.int 1)))) (nSeq (nIf (tT (fOp fEq (fSo (fFn gLen (vCons (fSo (fVar 3)) vNil))) (fSo (fC (.int 0))))) (nRet (fOp fMod (fSo (fFn gInt (vCons (fSo (fCall F__law_mixed (aCons (fC (.int 0)) (aCons (fOp fIx (fSl 0) (fSo (fC (.int 3)))) aNil)))) vNil))) (fSo (fVar 1)))) nNext) (nSeq (nAsg (fOp fIx (fSo (fVar 3)) (fSo (fOp fMod (fSo (fFn gInt (vCons (fSo (fVar 4)) vNil))) (fSo (fFn gLen (vCons (fSo (fVar 3)) vNil)))))) (fgVar 5)) (nSeq (nIf (tA (tT (fOp fLtD (fSo (fVar 4)) (fSo (fFn gLen (vCons (fSo (fVar 3)) vNil))))) (tT (fOp fGeD (fSo (fFn gAbs (vCons (fSo (fVar 5)) vNil))) (fSo (fOp fPow (fSo (fC (.int 10))) (fSo (fC (.int 18)))))))) (nSeq (nAsg (fOp fDiv (fSo (fFn gAbs (vCons (fSo (fVar 5)) vNil))) (fSo (fVar 1))) (fgSub 0 (fC (.int 2)))) (nRet (fOp fMod (fSo (fFn gInt (vCons (fSo (fFn gAbs (vCons (fSo (fVar 5)) vNil))) vNil))) (fSo (fVar 1))))) nNext) (nRet (fOp fMod (fSo (fFn gInt (vCons (fSo (fCall F__law_mixed (aCons (fVar 5) (aCons (fOp fIx (fSl 0) (fSo (fC (.int 3)))) aNil)))) vNil))) (fSo (fVar 1)))))))))))
def F__law_draw : FF := runF 6 f__law_draw
def f__law_any : FS := (nRet (fOp fIx (fSo (fVar 1)) (fSo (fCallH F__law_draw 0 (aCons (fFn gLen (vCons (fSo (fVar 1)) vNil)) aNil)))))
def F__law_any : FF := runF 2 f__law_any
def f__law_asked : FS := (nSeq (nPar 2 3 (aCons (fOp fAdd (fSo (fC (.int 2))) (fSo (fCallH F__law_draw 0 (aCons (fVar 1) aNil)))) (aCons (fOp fAdd (fSo (fC (.int 1))) (fSo (fCallH F__law_draw 0 (aCons (fC (.int 4)) aNil)))) aNil))) (nSeq (nAsgO (fLstO aNil) 4) (nSeq (nFor (fRange1 (aCons (fIf (tT (fOp fGtD (fSo (fVar 3)) (fSo (fC (.int 1))))) (fCallH F__law_draw 0 (aCons (fC (.int 6)) aNil)) (fC (.int 0))) aNil)) (fgVar 5) (nSeq (nAsg (fCallH F__law_draw 0 (aCons (fVar 3) aNil)) (fgVar 6)) (nSeq (nAsg (fOp fMod (fSo (fFn gInt (vCons (fSo (fOp fAdd (fSo (fOp fAdd (fSo (fVar 6)) (fSo (fC (.int 1))))) (fSo (fCallH F__law_draw 0 (aCons (fOp fSub (fSo (fVar 3)) (fSo (fC (.int 1)))) aNil))))) vNil))) (fSo (fVar 3))) (fgVar 7)) (nSeq (nAsg (fCallH F__law_draw 0 (aCons (fOp fMul (fSo (fC (.int 2))) (fSo (fVar 2))) aNil)) (fgVar 8)) (nDrop (fApp 4 (aCons (fTup (aCons (fVar 6) (aCons (fVar 7) (aCons (fVar 8) (aCons (fOp fAdd (fSo (fVar 8)) (fSo (fCallH F__law_any 0 (aCons (fLst (aCons (fC (.int 0)) (aCons (fC (.int 1)) (aCons (fC (.int 1)) (aCons (fC (.int 2)) (aCons (fVar 2) aNil)))))) aNil)))) aNil))))) aNil))))))) (nRet (fTup (aCons (fVar 2) (aCons (fVar 3) (aCons (fFn gTuple (vCons (fSl 4) vNil)) aNil))))))))
def F__law_asked : FF := runF 9 f__law_asked
def f__law_no_bounds : FS := (nSeq (nAsg (fLst (aCons (fC .non) (aCons (fLst aNil) (aCons (fTup (aCons (fTup (aCons (fC (.int 0)) (aCons (fC (.int 0)) (aCons (fC (.int 1)) (aCons (fC (.int 2)) aNil))))) aNil)) (aCons (fTup (aCons (fTup (aCons (fC (.int 0)) (aCons (fVar 1) (aCons (fC (.int 1)) (aCons (fC (.int 2)) aNil))))) aNil)) (aCons (fTup (aCons (fTup (aCons (fC (.int 0)) (aCons (fC (.int 1)) (aCons (fC (.int 2)) (aCons (fC (.int 1)) aNil))))) aNil)) (aCons (fTup (aCons (fTup (aCons (fC (.int 0)) (aCons (fC (.int 1)) (aCons (fC (.int 0)) (aCons (fC (.int 201)) aNil))))) aNil)) (aCons (fTup (aCons (fTup (aCons (fC (.int 0)) (aCons (fC (.int 1)) (aCons (fNeg (fC (.int 1))) (aCons (fC (.int 2)) aNil))))) aNil)) (aCons (fC (.int 0)) aNil))))))))) (fgVar 2)) (nRet (fCallH F__law_any 0 (aCons (fOp fAdd (fSo (fVar 2)) (fSo (fLst (aCons (fTup (aCons (fTup (aCons (fC (.int 0)) (aCons (fC (.int 1)) (aCons (fC (.int 2)) aNil)))) aNil)) (aCons (fTup (aCons (fLst (aCons (fC (.int 0)) (aCons (fC (.int 1)) (aCons (fC (.int 0)) (aCons (fC (.int 1)) aNil))))) aNil)) (aCons (fTup (aCons (fTup (aCons (fC (.bl true)) (aCons (fC (.int 1)) (aCons (fC (.int 0)) (aCons (fC (.int 1)) aNil))))) aNil)) (aCons (fTup (aCons (fTup (aCons (fC (.int 0)) (aCons (fC (.int 1)) (aCons (fC (.str "0")) (aCons (fC (.int 1)) aNil))))) aNil)) (aCons fEmp aNil)))))))) aNil))))
def F__law_no_bounds : FF := runF 3 f__law_no_bounds
def f__law_no_minutes : FS := (nRet (fCallH F__law_any 0 (aCons (fLst (aCons (fC .non) (aCons (fC (.int 1)) (aCons (fC (.int 61)) (aCons (fC (.bl true)) (aCons (fC (.str "10")) (aCons (fTup (aCons (fC (.int 10)) aNil)) (aCons (fNeg (fC (.int 5))) aNil)))))))) aNil)))
def F__law_no_minutes : FF := runF 1 f__law_no_minutes
def f__law_no_many : FS := (nRet (fCallH F__law_any 0 (aCons (fLst (aCons (fC .non) (aCons (fC (.int 0)) (aCons (fC (.int 7)) (aCons (fC (.bl true)) (aCons (fC (.str "2")) (aCons (fTup (aCons (fC (.int 2)) aNil)) aNil))))))) aNil)))
def F__law_no_many : FF := runF 1 f__law_no_many
def f_round_told : FS := (nSeq (nDrop (fCall F_check_timetable (aCons (fVar 0) (aCons (fVar 1) (aCons (fVar 2) aNil))))) (nRet (fCall F_raw_told (aCons (fVar 0) (aCons (fVar 1) (aCons (fVar 2) aNil))))))
def F_round_told : FF := runF 3 f_round_told
def f__law_keeps : FS := (nSeq (nAsg (fVar 1) (fgTup 4 (fgCons (fgVar 3) (fgCons (fgVar 4) (fgCons (fgVar 5) (fgCons (fgVar 6) fgNil)))))) (nRet (fFn gAny (vCons (fSo (toL (fComp (fRange2 (aCons (fNeg (fC (.int 1))) (aCons (fOp fAdd (fSo (fOp fDiv (fSo (fVar 6)) (fSo (fVar 0)))) (fSo (fC (.int 2)))) aNil))) (fgVar 7) tY (fChain fLeD fLeD (fSo (fVar 5)) (fSo (fOp fAdd (fSo (fOp fSub (fSo (fOp fIx (fSo (fVar 2)) (fSo (fVar 4)))) (fSo (fOp fIx (fSo (fVar 2)) (fSo (fVar 3)))))) (fSo (fOp fMul (fSo (fVar 7)) (fSo (fVar 0)))))) (fSo (fVar 6))) [7]))) vNil))))
def F__law_keeps : FF := runF 8 f__law_keeps
def f__law_all_times : FS := (nSeq (nAsg (fLst (aCons (fTup (aCons (fC (.int 0)) aNil)) aNil)) (fgVar 2)) (nSeq (nFor (fRange1 (aCons (fOp fSub (fSo (fVar 1)) (fSo (fC (.int 1)))) aNil)) (fgVar 3) (nSeq (nAsgO (fLstO aNil) 4) (nSeq (nFor (fSeq (fSo (fVar 2))) (fgVar 5) (nDrop (fExt 4 (vCons (fSo (toL (fComp (fRange1 (aCons (fVar 0) aNil)) (fgVar 6) tY (fOp fAdd (fSo (fVar 5)) (fSo (fTup (aCons (fVar 6) aNil)))) [6]))) vNil)))) (nFrz 4 (nAsg (fVar 4) (fgVar 2)))))) (nRet (fVar 2))))
def F__law_all_times : FF := runF 7 f__law_all_times
def f__law_kept : FS := (nSeq (nAsg (fCall F__law_all_times (aCons (fVar 0) (aCons (fVar 1) aNil))) (fgVar 3)) (nRet (toL (fComp (fSeq (fSo (fVar 3))) (fgVar 4) (tT (fFn gAll (vCons (fSo (toL (fComp (fSeq (fSo (fVar 2))) (fgVar 5) tY (fCall F__law_keeps (aCons (fVar 0) (aCons (fVar 5) (aCons (fVar 4) aNil)))) [5]))) vNil))) (fVar 4) [4]))))
def F__law_kept : FF := runF 6 f__law_kept
def f__law_least : FS := (nSeq (nFor (fRange2 (aCons (fC (.int 2)) (aCons (fC (.int 13)) aNil))) (fgVar 2) (nIf (tT (fOp fGtD (fSo (fFn gLen (vCons (fSo (fCall F__law_kept (aCons (fVar 2) (aCons (fVar 0) (aCons (fVar 1) aNil))))) vNil))) (fSo (fC (.int 0))))) (nRet (fVar 2)) nNext)) (nRet (fC .non)))
def F__law_least : FF := runF 3 f__law_least
def f__law_is_right : FS := (nSeq (nAsg (fCall F__law_kept (aCons (fVar 1) (aCons (fVar 2) (aCons (fVar 3) aNil)))) (fgVar 4)) (nSeq (nFor (fRange1 (aCons (fVar 2) aNil)) (fgVar 5) (nSeq (nAsg (fFn gTuple (vCons (fSo (fFn gSortSet (vCons (fSo (toL (fComp (fSeq (fSo (fVar 4))) (fgVar 11) tY (fOp fIx (fSo (fVar 11)) (fSo (fVar 5))) [11]))) vNil))) vNil)) (fgVar 6)) (nIf (tT (fOp fNe (fSo (fCall F_windows (aCons (fVar 1) (aCons (fVar 2) (aCons (fVar 3) (aCons (fVar 5) aNil)))))) (fSo (fVar 6)))) (nRet (fC (.bl false))) nNext))) (nSeq (nAsgO (fLstO aNil) 7) (nSeq (nFor (fRange1 (aCons (fFn gLen (vCons (fSo (fVar 3)) vNil)) aNil)) (fgVar 8) (nSeq (nAsg (fOp fAdd (fSo (fPart (fSo (fVar 3)) pNone (pSome (fVar 8)))) (fSo (fPart (fSo (fVar 3)) (pSome (fOp fAdd (fSo (fVar 8)) (fSo (fC (.int 1))))) pNone))) (fgVar 9)) (nIf (tA (tT (fOp fEq (fSo (fFn gLen (vCons (fSo (fVar 4)) vNil))) (fSo (fC (.int 0))))) (tT (fOp fGtD (fSo (fFn gLen (vCons (fSo (fCall F__law_kept (aCons (fVar 1) (aCons (fVar 2) (aCons (fVar 9) aNil))))) vNil))) (fSo (fC (.int 0)))))) (nDrop (fApp 7 (aCons (fVar 8) aNil))) nNext))) (nSeq (nIf (tT (fOp fNe (fSo (fCall F_needed_bounds (aCons (fVar 1) (aCons (fVar 2) (aCons (fVar 3) aNil))))) (fSo (fFn gTuple (vCons (fSl 7) vNil))))) (nRet (fC (.bl false))) nNext) (nSeq (nAsg (fCall F__law_least (aCons (fVar 2) (aCons (fVar 3) aNil))) (fgVar 10)) (nSeq (nIf (tT (fOp fIs (fSo (fVar 10)) (fSo (fC .non)))) (nRet (fC (.bl true))) nNext) (nRet (fAnd (fOp fEq (fSo (fCall F_least_minutes (aCons (fVar 2) (aCons (fVar 3) aNil)))) (fSo (fVar 10))) (fOp fEq (fSo (fOp fIx (fSo (fCall F_round_told (aCons (fVar 10) (aCons (fVar 2) (aCons (fVar 3) aNil))))) (fSo (fC (.int 0))))) (fSo (fC (.str "times")))))))))))))
def F__law_is_right : FF := runF 12 f__law_is_right
def f_law : FS := (nSeq (nAsgO (fCallO F__law_hand (aCons (fVar 0) aNil)) 1) (nSeq (nFor (fRange1 (aCons (fC (.int 3)) aNil)) (fgVar 2) (nSeq (nAsg (fCallH F__law_asked 1 (aCons (fC (.int 6)) aNil)) (fgTup 3 (fgCons (fgVar 3) (fgCons (fgVar 4) (fgCons (fgVar 5) fgNil))))) (nSeq (nAsg (fFn gMin (vCons (fSo (fVar 4)) (vCons (fSo (fC (.int 3))) vNil))) (fgVar 4)) (nSeq (nAsg (fPart (fSo (fFn gTuple (vCons (fSo (toL (fComp (fSeq (fSo (fVar 5))) (fgVar 11) (tA (tT (fOp fLtD (fSo (fOp fIx (fSo (fVar 11)) (fSo (fC (.int 0))))) (fSo (fVar 4)))) (tT (fOp fLtD (fSo (fOp fIx (fSo (fVar 11)) (fSo (fC (.int 1))))) (fSo (fVar 4))))) (fVar 11) [11]))) vNil))) pNone (pSome (fC (.int 4)))) (fgVar 5)) (nSeq (nIf (tN (tT (fCallH F__law_is_right 1 (aCons (fVar 3) (aCons (fVar 4) (aCons (fVar 5) aNil)))))) (nRet (fC (.bl false))) nNext) (nSeq (nAsg (fTup (aCons (fCallH F__law_no_minutes 1 aNil) (aCons (fCallH F__law_no_many 1 aNil) (aCons (fCallH F__law_no_bounds 1 (aCons (fVar 4) aNil)) aNil)))) (fgTup 3 (fgCons (fgVar 6) (fgCons (fgVar 7) (fgCons (fgVar 8) fgNil))))) (nSeq (nAsg (fCallH F__law_any 1 (aCons (fLst (aCons (fNeg (fC (.int 1))) (aCons (fVar 4) (aCons (fC .non) (aCons (fC (.bl true)) (aCons (fC (.str "0")) aNil)))))) aNil)) (fgVar 9)) (nSeq (nAsgO (fLstO (aCons (fLam wo__law_word_of wx__law_word_of (fCall F_windows (aCons (fVar 6) (aCons (fVar 7) (aCons (fVar 8) (aCons (fVar 9) aNil)))))) aNil)) 10) (nSeq (nDrop (fApp 10 (aCons (fLam wo__law_word_of wx__law_word_of (fCall F_windows (aCons (fVar 3) (aCons (fVar 7) (aCons (fVar 8) (aCons (fVar 9) aNil)))))) aNil))) (nSeq (nDrop (fApp 10 (aCons (fLam wo__law_word_of wx__law_word_of (fCall F_windows (aCons (fVar 3) (aCons (fVar 4) (aCons (fVar 8) (aCons (fVar 9) aNil)))))) aNil))) (nSeq (nDrop (fApp 10 (aCons (fLam wo__law_word_of wx__law_word_of (fCall F_windows (aCons (fVar 3) (aCons (fVar 4) (aCons (fVar 5) (aCons (fVar 9) aNil)))))) aNil))) (nSeq (nDrop (fApp 10 (aCons (fLam wo__law_word_of wx__law_word_of (fCall F_least_minutes (aCons (fVar 7) (aCons (fVar 8) aNil)))) aNil))) (nSeq (nDrop (fApp 10 (aCons (fLam wo__law_word_of wx__law_word_of (fCall F_least_minutes (aCons (fVar 4) (aCons (fVar 8) aNil)))) aNil))) (nSeq (nDrop (fApp 10 (aCons (fLam wo__law_word_of wx__law_word_of (fCall F_needed_bounds (aCons (fVar 6) (aCons (fVar 4) (aCons (fVar 5) aNil))))) aNil))) (nIf (tT (fOp fNe (fSl 10) (fSo (fLst (aCons (fC (.str "minutes")) (aCons (fC (.str "events")) (aCons (fC (.str "bounds")) (aCons (fC (.str "event")) (aCons (fC (.str "events")) (aCons (fC (.str "bounds")) (aCons (fC (.str "minutes")) aNil))))))))))) (nRet (fC (.bl false))) nNext))))))))))))))) (nSeq (nIf (tT (fOp fNe (fSo (fCall F_needed_bounds (aCons (fC (.int 10)) (aCons (fC (.int 2)) (aCons (fTup (aCons (fTup (aCons (fC (.int 0)) (aCons (fC (.int 1)) (aCons (fC (.int 3)) (aCons (fC (.int 4)) aNil))))) (aCons (fTup (aCons (fC (.int 1)) (aCons (fC (.int 0)) (aCons (fC (.int 3)) (aCons (fC (.int 4)) aNil))))) aNil))) aNil))))) (fSo (fTup (aCons (fC (.int 0)) (aCons (fC (.int 1)) aNil)))))) (nRet (fC (.bl false))) nNext) (nRet (fOp fEq (fSo (fCall F_windows (aCons (fC (.int 10)) (aCons (fC (.int 2)) (aCons (fTup (aCons (fTup (aCons (fC (.int 0)) (aCons (fC (.int 1)) (aCons (fC (.int 3)) (aCons (fC (.int 4)) aNil))))) (aCons (fTup (aCons (fC (.int 1)) (aCons (fC (.int 0)) (aCons (fC (.int 5)) (aCons (fC (.int 7)) aNil))))) aNil))) (aCons (fC (.int 1)) aNil)))))) (fSo (fTup (aCons (fC (.int 3)) (aCons (fC (.int 4)) aNil)))))))))
def F_law : FF := runF 12 f_law
section
variable {P : Program} {w : World} {K : PySem.W.Frag} {mg : Str → Option Value} {base : Heap} {T : List (Addr × Str)} {k : Nat}
theorem sc_is_integer : FnScope ["thing"] ["thing"] (defScope s_is_integer) := ⟨rfl, rfl, rfl, by decide +kernel, rfl, by decide +kernel, by decide +kernel⟩
theorem bn_is_integer : BindN "is_integer" s_is_integer ["thing"] := fun _ _ _ _ _ _ us hl => match us, hl with | [_], _ => rfl
def t_is_integer (K : PySem.W.Frag) : DS := (sRet (dAnd (dFn gIsi (dCons (dVar 0) (dCons (dC (.ty "int")) dNil))) (dNot (dFn gIsi (dCons (dVar 0) (dCons (dC (.ty "bool")) dNil))))))
theorem sim_is_integer : SimS K (t_is_integer K ) f_is_integer := by
  unfold t_is_integer f_is_integer
  exact (sims_ret (sim_and (sim_fn olv_isi (simvs_cons (simv_so sim_var) (simvs_cons (simv_so sim_c) simvs_nil))) (sim_not (sim_fn olv_isi (simvs_cons (simv_so sim_var) (simvs_cons (simv_so sim_c) simvs_nil))))))
theorem rdx_is_integer : ∀ ds M Q E, (fP K 1 F_is_integer) ds M Q E → (t_is_integer K ) (endF Q E) (startD ["thing"] ds) M := by
  unfold F_is_integer
  exact rd_m (N := ["thing"]) rfl (sim_is_integer (K := K))
theorem ok_is_integer (B : Bs K mg) (Z : DefAt K mg "is_integer" s_is_integer)  : FnX P w K mg base T false (k + 1) "is_integer" ["thing"] (fP K 1 F_is_integer) := by
  exact fnx_of (k := k) Z sc_is_integer bn_is_integer len_f mono_f (t := (t_is_integer K )) (fun f cdv A outer s H M E hr hg => by
    unfold t_is_integer
    exact (dss_one (ds_ret (de_and (dcb B.b_isinstance bb_isinstance cl_isi (da_cons (dvl 0) (da_cons (dty B.b_int bb_int) da_nil))) (de_one (de_not (dcb B.b_isinstance bb_isinstance cl_isi (da_cons (dvl 0) (da_cons (dty B.b_bool bb_bool) da_nil))))))))) (rdx_is_integer)
theorem sc_is_within : FnScope ["thing", "low", "high"] ["thing", "low", "high"] (defScope s_is_within) := ⟨rfl, rfl, rfl, by decide +kernel, rfl, by decide +kernel, by decide +kernel⟩
theorem bn_is_within : BindN "is_within" s_is_within ["thing", "low", "high"] := fun _ _ _ _ _ _ us hl => match us, hl with | [_, _, _], _ => rfl
def t_is_within (K : PySem.W.Frag) (sp_is_integer : DSp) : DS := (sRet (dAnd (dCall sp_is_integer (dCons (dVar 0) dNil)) (dChain fLeD fLeD (dVar 1) (dVar 0) (dVar 2))))
theorem sim_is_within : SimS K (t_is_within K (fP K 1 F_is_integer)) f_is_within := by
  unfold t_is_within f_is_within
  exact (sims_ret (sim_and (sim_call (sima_cons sim_var sima_nil) (na_cons na_nil)) (sim_chain opv_leD opv_leD (simv_so sim_var) (simv_so sim_var) (simv_so sim_var))))
theorem rdx_is_within : ∀ ds M Q E, (fP K 3 F_is_within) ds M Q E → (t_is_within K (fP K 1 F_is_integer)) (endF Q E) (startD ["thing", "low", "high"] ds) M := by
  unfold F_is_within
  exact rd_m (N := ["thing", "low", "high"]) rfl (sim_is_within (K := K))
theorem ok_is_within (B : Bs K mg) (Z : DefAt K mg "is_within" s_is_within) (g_is_integer : FnX P w K mg base T false k "is_integer" ["thing"] (fP K 1 F_is_integer)) : FnX P w K mg base T false (k + 1) "is_within" ["thing", "low", "high"] (fP K 3 F_is_within) := by
  have hkk : Nat.ble k k = true := Nat.ble_self_eq_true k
  exact fnx_of (k := k) Z sc_is_within bn_is_within len_f mono_f (t := (t_is_within K (fP K 1 F_is_integer))) (fun f cdv A outer s H M E hr hg => by
    unfold t_is_within
    exact (dss_one (ds_ret (de_and (dcx g_is_integer (da_cons (dvl 0) da_nil) hkk) (de_one (de_chain dop_leD dop_leD (dvl 1) (dvl 0) (dvl 2))))))) (rdx_is_within)
theorem sc_check_minutes : FnScope ["minutes"] ["minutes"] (defScope s_check_minutes) := ⟨rfl, rfl, rfl, by decide +kernel, rfl, by decide +kernel, by decide +kernel⟩
theorem bn_check_minutes : BindN "check_minutes" s_check_minutes ["minutes"] := fun _ _ _ _ _ _ us hl => match us, hl with | [_], _ => rfl
def t_check_minutes (K : PySem.W.Frag) (sp_is_within : DSp) : DS := (sIf (tNot (tOf (dCall sp_is_within (dCons (dVar 0) (dCons (dC (.int 2)) (dCons (dC (.int 60)) dNil)))))) (sRaise (cl K "NoMinutes")) sNext)
theorem sim_check_minutes : SimS K (t_check_minutes K (fP K 3 F_is_within)) f_check_minutes := by
  unfold t_check_minutes f_check_minutes
  exact (sims_if (simt_n (simt_t (sim_call (sima_cons sim_var (sima_cons sim_c (sima_cons sim_c sima_nil))) (na_cons (na_cons (na_cons na_nil)))))) sims_raise sims_next)
theorem rdx_check_minutes : ∀ ds M Q E, (fP K 1 F_check_minutes) ds M Q E → (t_check_minutes K (fP K 3 F_is_within)) (endF Q E) (startD ["minutes"] ds) M := by
  unfold F_check_minutes
  exact rd_m (N := ["minutes"]) rfl (sim_check_minutes (K := K))
theorem ok_check_minutes (B : Bs K mg) (Z : DefAt K mg "check_minutes" s_check_minutes) (g_is_within : FnX P w K mg base T false k "is_within" ["thing", "low", "high"] (fP K 3 F_is_within)) : FnX P w K mg base T false (k + 1) "check_minutes" ["minutes"] (fP K 1 F_check_minutes) := by
  have hkk : Nat.ble k k = true := Nat.ble_self_eq_true k
  exact fnx_of (k := k) Z sc_check_minutes bn_check_minutes len_f mono_f (t := (t_check_minutes K (fP K 3 F_is_within))) (fun f cdv A outer s H M E hr hg => by
    unfold t_check_minutes
    exact (dss_one (ds_if (dt_not (dt_val (dcx g_is_within (da_cons (dvl 0) (da_cons (dgi B.c_LEAST_MINUTES) (da_cons (dgi B.c_MOST_MINUTES) da_nil))) hkk))) (dss_one (ds_raise0 B.x_NoMinutes)) dss_nil))) (rdx_check_minutes)
theorem sc_is_sized : FnScope ["thing", "low", "high"] ["thing", "low", "high"] (defScope s_is_sized) := ⟨rfl, rfl, rfl, by decide +kernel, rfl, by decide +kernel, by decide +kernel⟩
theorem bn_is_sized : BindN "is_sized" s_is_sized ["thing", "low", "high"] := fun _ _ _ _ _ _ us hl => match us, hl with | [_, _, _], _ => rfl
def t_is_sized (K : PySem.W.Frag) : DS := (sRet (dAnd (dFn gIsi (dCons (dVar 0) (dCons (dC (.ty "tuple")) dNil))) (dChain fLeD fLeD (dVar 1) (dFn gLen (dCons (dVar 0) dNil)) (dVar 2))))
theorem sim_is_sized : SimS K (t_is_sized K ) f_is_sized := by
  unfold t_is_sized f_is_sized
  exact (sims_ret (sim_and (sim_fn olv_isi (simvs_cons (simv_so sim_var) (simvs_cons (simv_so sim_c) simvs_nil))) (sim_chain opv_leD opv_leD (simv_so sim_var) (simv_so (sim_fn olv_len (simvs_cons (simv_so sim_var) simvs_nil))) (simv_so sim_var))))
theorem rdx_is_sized : ∀ ds M Q E, (fP K 3 F_is_sized) ds M Q E → (t_is_sized K ) (endF Q E) (startD ["thing", "low", "high"] ds) M := by
  unfold F_is_sized
  exact rd_m (N := ["thing", "low", "high"]) rfl (sim_is_sized (K := K))
theorem ok_is_sized (B : Bs K mg) (Z : DefAt K mg "is_sized" s_is_sized)  : FnX P w K mg base T false (k + 1) "is_sized" ["thing", "low", "high"] (fP K 3 F_is_sized) := by
  exact fnx_of (k := k) Z sc_is_sized bn_is_sized len_f mono_f (t := (t_is_sized K )) (fun f cdv A outer s H M E hr hg => by
    unfold t_is_sized
    exact (dss_one (ds_ret (de_and (dcb B.b_isinstance bb_isinstance cl_isi (da_cons (dvl 0) (da_cons (dty B.b_tuple bb_tuple) da_nil))) (de_one (de_chain dop_leD dop_leD (dvl 1) (dcb B.b_len bb_len cl_len (da_cons (dvl 0) da_nil)) (dvl 2))))))) (rdx_is_sized)
theorem sc_is_bound : FnScope ["many", "thing", "one"] ["many", "thing"] (defScope s_is_bound) := ⟨rfl, rfl, rfl, by decide +kernel, rfl, by decide +kernel, by decide +kernel⟩
theorem bn_is_bound : BindN "is_bound" s_is_bound ["many", "thing"] := fun _ _ _ _ _ _ us hl => match us, hl with | [_, _], _ => rfl
def t_is_bound (K : PySem.W.Frag) (sp_is_within sp_is_sized : DSp) : DS := (sSeq (sIf (tOr (tNot (tOf (dCall sp_is_sized (dCons (dVar 1) (dCons (dC (.int 4)) (dCons (dC (.int 4)) dNil)))))) (tNot (tOf (dFn gAll (dCons (dComp (iSeq (dPart (dVar 1) oNone (oSome (dC (.int 2))))) (gVar 2) tYesD (dCall sp_is_within (dCons (dVar 2) (dCons (dC (.int 0)) (dCons (dOp fSub (dVar 0) (dC (.int 1))) dNil)))) [2]) dNil))))) (sRet (dC (.bl false))) sNext) (sRet (dAnd (dOp fNe (dOp fIx (dVar 1) (dC (.int 0))) (dOp fIx (dVar 1) (dC (.int 1)))) (dAnd (dCall sp_is_within (dCons (dOp fIx (dVar 1) (dC (.int 2))) (dCons (dC (.int 0)) (dCons (dC (.int 200)) dNil)))) (dCall sp_is_within (dCons (dOp fIx (dVar 1) (dC (.int 3))) (dCons (dOp fIx (dVar 1) (dC (.int 2))) (dCons (dC (.int 200)) dNil))))))))
theorem sim_is_bound : SimS K (t_is_bound K (fP K 3 F_is_within) (fP K 3 F_is_sized)) f_is_bound := by
  unfold t_is_bound f_is_bound
  exact (sims_seq (sims_if (simt_o (simt_n (simt_t (sim_call (sima_cons sim_var (sima_cons sim_c (sima_cons sim_c sima_nil))) (na_cons (na_cons (na_cons na_nil)))))) (simt_n (simt_t (sim_fn olv_all (simvs_cons (simv_so (sim_comp (simi_seq (simv_so (sim_part (simv_so sim_var) sim_pnone (sim_psome sim_c)))) simw_var simt_y (sim_call (sima_cons sim_var (sima_cons sim_c (sima_cons (sim_op opv_sub (simv_so sim_var) (simv_so sim_c)) sima_nil))) (na_cons (na_cons (na_cons na_nil)))))) simvs_nil))))) (sims_ret sim_c) sims_next) (sims_ret (sim_and (sim_op opv_ne (simv_so (sim_op opv_ix (simv_so sim_var) (simv_so sim_c))) (simv_so (sim_op opv_ix (simv_so sim_var) (simv_so sim_c)))) (sim_and (sim_call (sima_cons (sim_op opv_ix (simv_so sim_var) (simv_so sim_c)) (sima_cons sim_c (sima_cons sim_c sima_nil))) (na_cons (na_cons (na_cons na_nil)))) (sim_call (sima_cons (sim_op opv_ix (simv_so sim_var) (simv_so sim_c)) (sima_cons (sim_op opv_ix (simv_so sim_var) (simv_so sim_c)) (sima_cons sim_c sima_nil))) (na_cons (na_cons (na_cons na_nil))))))))
theorem rdx_is_bound : ∀ ds M Q E, (fP K 2 F_is_bound) ds M Q E → (t_is_bound K (fP K 3 F_is_within) (fP K 3 F_is_sized)) (endF Q E) (startD ["many", "thing", "one"] ds) M := by
  unfold F_is_bound
  exact rd_m (N := ["many", "thing", "one"]) rfl (sim_is_bound (K := K))
theorem ok_is_bound (B : Bs K mg) (Z : DefAt K mg "is_bound" s_is_bound) (g_is_within : FnX P w K mg base T false k "is_within" ["thing", "low", "high"] (fP K 3 F_is_within)) (g_is_sized : FnX P w K mg base T false k "is_sized" ["thing", "low", "high"] (fP K 3 F_is_sized)) : FnX P w K mg base T false (k + 1) "is_bound" ["many", "thing"] (fP K 2 F_is_bound) := by
  have hkk : Nat.ble k k = true := Nat.ble_self_eq_true k
  exact fnx_of (k := k) Z sc_is_bound bn_is_bound len_f mono_f (t := (t_is_bound K (fP K 3 F_is_within) (fP K 3 F_is_sized))) (fun f cdv A outer s H M E hr hg => by
    unfold t_is_bound
    exact (dss_cons (ds_if (dt_or (dt_not (dt_val (dcx g_is_sized (da_cons (dvl 1) (da_cons de_int (da_cons de_int da_nil))) hkk))) (dt_or1 (dt_not (dt_val (dcb B.b_all bb_all (cl_all rfl) (da_cons (de_comp (own := [("one", 2)]) rfl (di_seq (de_part (dvl 1) do_none (do_some de_int))) (blkOk_by (by kernel_rfl)) (fun _ _ _ _ _ => (dwl 2)) (fun _ _ _ _ _ => dts_nil) (fun _ _ _ _ _ => (dcx g_is_within (da_cons (dvl 2) (da_cons de_int (da_cons (de_op dop_sub (dvc 0) de_int) da_nil))) hkk))) da_nil)))))) (dss_one (ds_ret de_bl)) dss_nil) (dss_one (ds_ret (de_and (de_cmp dop_ne (de_ix (dvl 1) de_int) (de_ix (dvl 1) de_int)) (de_and (dcx g_is_within (da_cons (de_ix (dvl 1) de_int) (da_cons de_int (da_cons (dgi B.c_MOST_LONG) da_nil))) hkk) (de_one (dcx g_is_within (da_cons (de_ix (dvl 1) de_int) (da_cons (de_ix (dvl 1) de_int) (da_cons (dgi B.c_MOST_LONG) da_nil))) hkk)))))))) (rdx_is_bound)
theorem sc_check_bounds : FnScope ["many", "bounds", "one"] ["many", "bounds"] (defScope s_check_bounds) := ⟨rfl, rfl, rfl, by decide +kernel, rfl, by decide +kernel, by decide +kernel⟩
theorem bn_check_bounds : BindN "check_bounds" s_check_bounds ["many", "bounds"] := fun _ _ _ _ _ _ us hl => match us, hl with | [_, _], _ => rfl
def t_check_bounds (K : PySem.W.Frag) (sp_is_within sp_is_sized sp_is_bound : DSp) : DS := (sSeq (sIf (tNot (tOf (dCall sp_is_within (dCons (dVar 0) (dCons (dC (.int 1)) (dCons (dC (.int 6)) dNil)))))) (sRaise (cl K "NoEvents")) sNext) (sIf (tOr (tNot (tOf (dCall sp_is_sized (dCons (dVar 1) (dCons (dC (.int 0)) (dCons (dC (.int 10)) dNil)))))) (tNot (tOf (dFn gAll (dCons (dComp (iSeq (dVar 1)) (gVar 2) tYesD (dCall sp_is_bound (dCons (dVar 0) (dCons (dVar 2) dNil))) [2]) dNil))))) (sRaise (cl K "NoBounds")) sNext))
theorem sim_check_bounds : SimS K (t_check_bounds K (fP K 3 F_is_within) (fP K 3 F_is_sized) (fP K 2 F_is_bound)) f_check_bounds := by
  unfold t_check_bounds f_check_bounds
  exact (sims_seq (sims_if (simt_n (simt_t (sim_call (sima_cons sim_var (sima_cons sim_c (sima_cons sim_c sima_nil))) (na_cons (na_cons (na_cons na_nil)))))) sims_raise sims_next) (sims_if (simt_o (simt_n (simt_t (sim_call (sima_cons sim_var (sima_cons sim_c (sima_cons sim_c sima_nil))) (na_cons (na_cons (na_cons na_nil)))))) (simt_n (simt_t (sim_fn olv_all (simvs_cons (simv_so (sim_comp (simi_seq (simv_so sim_var)) simw_var simt_y (sim_call (sima_cons sim_var (sima_cons sim_var sima_nil)) (na_cons (na_cons na_nil))))) simvs_nil))))) sims_raise sims_next))
theorem rdx_check_bounds : ∀ ds M Q E, (fP K 2 F_check_bounds) ds M Q E → (t_check_bounds K (fP K 3 F_is_within) (fP K 3 F_is_sized) (fP K 2 F_is_bound)) (endF Q E) (startD ["many", "bounds", "one"] ds) M := by
  unfold F_check_bounds
  exact rd_m (N := ["many", "bounds", "one"]) rfl (sim_check_bounds (K := K))
theorem ok_check_bounds (B : Bs K mg) (Z : DefAt K mg "check_bounds" s_check_bounds) (g_is_within : FnX P w K mg base T false k "is_within" ["thing", "low", "high"] (fP K 3 F_is_within)) (g_is_sized : FnX P w K mg base T false k "is_sized" ["thing", "low", "high"] (fP K 3 F_is_sized)) (g_is_bound : FnX P w K mg base T false k "is_bound" ["many", "thing"] (fP K 2 F_is_bound)) : FnX P w K mg base T false (k + 1) "check_bounds" ["many", "bounds"] (fP K 2 F_check_bounds) := by
  have hkk : Nat.ble k k = true := Nat.ble_self_eq_true k
  exact fnx_of (k := k) Z sc_check_bounds bn_check_bounds len_f mono_f (t := (t_check_bounds K (fP K 3 F_is_within) (fP K 3 F_is_sized) (fP K 2 F_is_bound))) (fun f cdv A outer s H M E hr hg => by
    unfold t_check_bounds
    exact (dss_cons (ds_if (dt_not (dt_val (dcx g_is_within (da_cons (dvc 0) (da_cons de_int (da_cons (dgi B.c_MOST_EVENTS) da_nil))) hkk))) (dss_one (ds_raise0 B.x_NoEvents)) dss_nil) (dss_one (ds_if (dt_or (dt_not (dt_val (dcx g_is_sized (da_cons (dvl 1) (da_cons de_int (da_cons (dgi B.c_MOST_BOUNDS) da_nil))) hkk))) (dt_or1 (dt_not (dt_val (dcb B.b_all bb_all (cl_all rfl) (da_cons (de_comp (own := [("one", 2)]) rfl (di_seq (dvl 1)) (blkOk_by (by kernel_rfl)) (fun _ _ _ _ _ => (dwl 2)) (fun _ _ _ _ _ => dts_nil) (fun _ _ _ _ _ => (dcx g_is_bound (da_cons (dvc 0) (da_cons (dvl 2) da_nil)) hkk))) da_nil)))))) (dss_one (ds_raise0 B.x_NoBounds)) dss_nil)))) (rdx_check_bounds)
theorem sc_check_timetable : FnScope ["minutes", "many", "bounds"] ["minutes", "many", "bounds"] (defScope s_check_timetable) := ⟨rfl, rfl, rfl, by decide +kernel, rfl, by decide +kernel, by decide +kernel⟩
theorem bn_check_timetable : BindN "check_timetable" s_check_timetable ["minutes", "many", "bounds"] := fun _ _ _ _ _ _ us hl => match us, hl with | [_, _, _], _ => rfl
def t_check_timetable (K : PySem.W.Frag) (sp_check_minutes sp_check_bounds : DSp) : DS := (sSeq (sDrop (dCall sp_check_minutes (dCons (dVar 0) dNil))) (sDrop (dCall sp_check_bounds (dCons (dVar 1) (dCons (dVar 2) dNil)))))
theorem sim_check_timetable : SimS K (t_check_timetable K (fP K 1 F_check_minutes) (fP K 2 F_check_bounds)) f_check_timetable := by
  unfold t_check_timetable f_check_timetable
  exact (sims_seq (sims_drop (sim_call (sima_cons sim_var sima_nil) (na_cons na_nil))) (sims_drop (sim_call (sima_cons sim_var (sima_cons sim_var sima_nil)) (na_cons (na_cons na_nil)))))
theorem rdx_check_timetable : ∀ ds M Q E, (fP K 3 F_check_timetable) ds M Q E → (t_check_timetable K (fP K 1 F_check_minutes) (fP K 2 F_check_bounds)) (endF Q E) (startD ["minutes", "many", "bounds"] ds) M := by
  unfold F_check_timetable
  exact rd_m (N := ["minutes", "many", "bounds"]) rfl (sim_check_timetable (K := K))
theorem ok_check_timetable (B : Bs K mg) (Z : DefAt K mg "check_timetable" s_check_timetable) (g_check_minutes : FnX P w K mg base T false k "check_minutes" ["minutes"] (fP K 1 F_check_minutes)) (g_check_bounds : FnX P w K mg base T false k "check_bounds" ["many", "bounds"] (fP K 2 F_check_bounds)) : FnX P w K mg base T false (k + 1) "check_timetable" ["minutes", "many", "bounds"] (fP K 3 F_check_timetable) := by
  have hkk : Nat.ble k k = true := Nat.ble_self_eq_true k
  exact fnx_of (k := k) Z sc_check_timetable bn_check_timetable len_f mono_f (t := (t_check_timetable K (fP K 1 F_check_minutes) (fP K 2 F_check_bounds))) (fun f cdv A outer s H M E hr hg => by
    unfold t_check_timetable
    exact (dss_cons (ds_expr (dcx g_check_minutes (da_cons (dvl 0) da_nil) hkk)) (dss_one (ds_expr (dcx g_check_bounds (da_cons (dvl 1) (da_cons (dvl 2) da_nil)) hkk))))) (rdx_check_timetable)
theorem sc_possible_turns : FnScope ["minutes", "bound", "least"] ["minutes", "bound"] (defScope s_possible_turns) := ⟨rfl, rfl, rfl, by decide +kernel, rfl, by decide +kernel, by decide +kernel⟩
theorem bn_possible_turns : BindN "possible_turns" s_possible_turns ["minutes", "bound"] := fun _ _ _ _ _ _ us hl => match us, hl with | [_, _], _ => rfl
def t_possible_turns (K : PySem.W.Frag) : DS := (sSeq (sAsg (dOp fSub (dC (.int 0)) (dOp fDiv (dOp fSub (dOp fSub (dVar 0) (dC (.int 1))) (dOp fIx (dVar 1) (dC (.int 2)))) (dVar 0))) (gVar 2)) (sRet (dRgL (dVar 2) (dOp fAdd (dOp fDiv (dOp fSub (dOp fAdd (dOp fIx (dVar 1) (dC (.int 3))) (dVar 0)) (dC (.int 1))) (dVar 0)) (dC (.int 1))))))
theorem sim_possible_turns : SimS K (t_possible_turns K ) f_possible_turns := by
  unfold t_possible_turns f_possible_turns
  exact (sims_seq (sims_asg (sim_op opv_sub (simv_so sim_c) (simv_so (sim_op opv_div (simv_so (sim_op opv_sub (simv_so (sim_op opv_sub (simv_so sim_var) (simv_so sim_c))) (simv_so (sim_op opv_ix (simv_so sim_var) (simv_so sim_c))))) (simv_so sim_var)))) simg_var) (sims_ret (sim_rgL sim_var (sim_op opv_add (simv_so (sim_op opv_div (simv_so (sim_op opv_sub (simv_so (sim_op opv_add (simv_so (sim_op opv_ix (simv_so sim_var) (simv_so sim_c))) (simv_so sim_var))) (simv_so sim_c))) (simv_so sim_var))) (simv_so sim_c)))))
theorem rdx_possible_turns : ∀ ds M Q E, (fP K 2 F_possible_turns) ds M Q E → (t_possible_turns K ) (endF Q E) (startD ["minutes", "bound", "least"] ds) M := by
  unfold F_possible_turns
  exact rd_m (N := ["minutes", "bound", "least"]) rfl (sim_possible_turns (K := K))
theorem ok_possible_turns (B : Bs K mg) (Z : DefAt K mg "possible_turns" s_possible_turns)  : FnX P w K mg base T false (k + 1) "possible_turns" ["minutes", "bound"] (fP K 2 F_possible_turns) := by
  exact fnx_of (k := k) Z sc_possible_turns bn_possible_turns len_f mono_f (t := (t_possible_turns K )) (fun f cdv A outer s H M E hr hg => by
    unfold t_possible_turns
    exact (dss_cons (dsl 2 (de_op dop_sub de_int (de_op dop_div (de_op dop_sub (de_op dop_sub (dvl 0) de_int) (de_ix (dvl 1) de_int)) (dvl 0)))) (dss_one (ds_ret (de_lstRg2 rfl B.b_range rfl B.b_list rfl (dvl 2) (de_op dop_add (de_op dop_div (de_op dop_sub (de_op dop_add (de_ix (dvl 1) de_int) (dvl 0)) de_int) (dvl 0)) de_int)))))) (rdx_possible_turns)
theorem sc_links_of : FnScope ["minutes", "many", "bounds", "told", "found", "number", "turn", "one", "other", "low", "high"] ["minutes", "many", "bounds", "told"] (defScope s_links_of) := ⟨rfl, rfl, rfl, by decide +kernel, rfl, by decide +kernel, by decide +kernel⟩
theorem bn_links_of : BindN "links_of" s_links_of ["minutes", "many", "bounds", "told"] := fun _ _ _ _ _ _ us hl => match us, hl with | [_, _, _, _], _ => rfl
def t_links_of (K : PySem.W.Frag) : DS := (sSeq (sAsg (dLstM dNil) (gVar 4)) (sSeq (sFor (iSeq (dVar 3)) (gTup 2 (gCons (gVar 5) (gCons (gVar 6) gNil))) (sSeq (sAsg (dOp fIx (dVar 2) (dVar 5)) (gTup 4 (gCons (gVar 7) (gCons (gVar 8) (gCons (gVar 9) (gCons (gVar 10) gNil)))))) (sSeq (sDrop (dMeth tyLst rApp (dVar 4) (dCons (dTup (dCons (dVar 7) (dCons (dVar 8) (dCons (dOp fSub (dVar 10) (dOp fMul (dVar 6) (dVar 0))) (dCons (dTup (dCons (dC (.str "high")) (dCons (dVar 5) dNil))) dNil))))) dNil))) (sDrop (dMeth tyLst rApp (dVar 4) (dCons (dTup (dCons (dVar 8) (dCons (dVar 7) (dCons (dOp fSub (dOp fMul (dVar 6) (dVar 0)) (dVar 9)) (dCons (dTup (dCons (dC (.str "low")) (dCons (dVar 5) dNil))) dNil))))) dNil)))))) (sSeq (sFor (iRange1 (dCons (dVar 1) dNil)) (gVar 7) (sDrop (dMeth tyLst rExt (dVar 4) (dCons (dComp (iRange1 (dCons (dVar 1) dNil)) (gVar 8) (tOf (dOp fNe (dVar 8) (dVar 7))) (dTup (dCons (dVar 7) (dCons (dVar 8) (dCons (dOp fSub (dVar 0) (dC (.int 1))) (dCons (dTup (dCons (dC (.str "wide")) (dCons (dVar 7) (dCons (dVar 8) dNil)))) dNil))))) [8]) dNil)))) (sFrz 4 (sRet (dVar 4))))))
theorem sim_links_of : SimS K (t_links_of K ) f_links_of := by
  unfold t_links_of f_links_of
  exact (sims_seq (sims_asgO (simo_lst sima_nil)) (sims_seq (sims_for (simi_seq (simv_so sim_var)) (simg_tup (simg_cons simg_var (simg_cons simg_var simg_nil))) (sims_seq (sims_asg (sim_op opv_ix (simv_so sim_var) (simv_so sim_var)) (simg_tup (simg_cons simg_var (simg_cons simg_var (simg_cons simg_var (simg_cons simg_var simg_nil)))))) (sims_seq (sims_drop (sim_app (sima_cons (sim_tup (sima_cons sim_var (sima_cons sim_var (sima_cons (sim_op opv_sub (simv_so sim_var) (simv_so (sim_op opv_mul (simv_so sim_var) (simv_so sim_var)))) (sima_cons (sim_tup (sima_cons sim_c (sima_cons sim_var sima_nil))) sima_nil))))) sima_nil))) (sims_drop (sim_app (sima_cons (sim_tup (sima_cons sim_var (sima_cons sim_var (sima_cons (sim_op opv_sub (simv_so (sim_op opv_mul (simv_so sim_var) (simv_so sim_var))) (simv_so sim_var)) (sima_cons (sim_tup (sima_cons sim_c (sima_cons sim_var sima_nil))) sima_nil))))) sima_nil)))))) (sims_seq (sims_for (simi_range1 (sima_cons sim_var sima_nil)) simg_var (sims_drop (sim_ext (simvs_cons (simv_so (sim_comp (simi_range1 (sima_cons sim_var sima_nil)) simw_var (simt_t (sim_op opv_ne (simv_so sim_var) (simv_so sim_var))) (sim_tup (sima_cons sim_var (sima_cons sim_var (sima_cons (sim_op opv_sub (simv_so sim_var) (simv_so sim_c)) (sima_cons (sim_tup (sima_cons sim_c (sima_cons sim_var (sima_cons sim_var sima_nil)))) sima_nil))))))) simvs_nil)))) (sims_frz 4 (sims_ret sim_var)))))
theorem rdx_links_of : ∀ ds M Q E, (fP K 4 F_links_of) ds M Q E → (t_links_of K ) (endF Q E) (startD ["minutes", "many", "bounds", "told", "found", "number", "turn", "one", "other", "low", "high"] ds) M := by
  unfold F_links_of
  exact rd_m (N := ["minutes", "many", "bounds", "told", "found", "number", "turn", "one", "other", "low", "high"]) rfl (sim_links_of (K := K))
theorem ok_links_of (B : Bs K mg) (Z : DefAt K mg "links_of" s_links_of)  : FnX P w K mg base T false (k + 1) "links_of" ["minutes", "many", "bounds", "told"] (fP K 4 F_links_of) := by
  exact fnx_of (k := k) Z sc_links_of bn_links_of len_f mono_f (t := (t_links_of K )) (fun f cdv A outer s H M E hr hg => by
    unfold t_links_of
    exact (dss_cons (dsl 4 (de_lstM da_nil)) (dss_cons (ds_for rfl (di_seq (dvl 3)) (dg_tup rfl (dgs_cons (dgl 5) (dgs_cons (dgl 6) dgs_nil))) (dss_cons (ds_asg (de_ix (dvl 2) (dvl 5)) (dg_tup rfl (dgs_cons (dgc 7) (dgs_cons (dgl 8) (dgs_cons (dgl 9) (dgs_cons (dgl 10) dgs_nil)))))) (dss_cons (ds_expr (de_append (dvl 4) (da_cons (de_tup (da_cons (dvc 7) (da_cons (dvl 8) (da_cons (de_op dop_sub (dvl 10) (de_op dop_mul2 (dvl 6) (dvc 0))) (da_cons (de_tup (da_cons (dgs B.c_HIGH) (da_cons (dvl 5) da_nil))) da_nil))))) da_nil))) (dss_one (ds_expr (de_append (dvl 4) (da_cons (de_tup (da_cons (dvl 8) (da_cons (dvc 7) (da_cons (de_op dop_sub (de_op dop_mul2 (dvl 6) (dvc 0)) (dvl 9)) (da_cons (de_tup (da_cons (dgs B.c_LOW) (da_cons (dvl 5) da_nil))) da_nil))))) da_nil))))))) (dss_cons (ds_for rfl (di_range1 rfl B.b_range (da_cons (dvl 1) da_nil)) (dgc 7) (dss_one (ds_expr (de_extend (dvl 4) (da_cons (de_comp (own := [("other", 8)]) rfl (di_range1 rfl B.b_range (da_cons (dvl 1) da_nil)) (blkOk_by (by kernel_rfl)) (fun _ _ _ _ _ => (dwl 8)) (fun _ _ _ _ _ => (dts_one (dt_cmp dop_ne (dvl 8) (dvc 7)))) (fun _ _ _ _ _ => (de_tup (da_cons (dvc 7) (da_cons (dvl 8) (da_cons (de_op dop_sub (dvc 0) de_int) (da_cons (de_tup (da_cons (dgs B.c_WIDE) (da_cons (dvc 7) (da_cons (dvl 8) da_nil)))) da_nil))))))) da_nil))))) (dss_frz 4 (dss_one (ds_ret (dvl 4)))))))) (rdx_links_of)
theorem sc_settled : FnScope ["many", "links", "times", "came", "last", "turn", "link", "found", "here"] ["many", "links"] (defScope s_settled) := ⟨rfl, rfl, rfl, by decide +kernel, rfl, by decide +kernel, by decide +kernel⟩
theorem bn_settled : BindN "settled" s_settled ["many", "links"] := fun _ _ _ _ _ _ us hl => match us, hl with | [_, _], _ => rfl
def t_settled (K : PySem.W.Frag) : DS := (sSeq (sPar3 2 3 4 (dCons (dOpM fMul (dLst (dCons (dC (.int 0)) dNil)) (dVar 0)) (dCons (dOpM fMul (dLst (dCons (dC .non) dNil)) (dVar 0)) (dCons (dC .non) dNil)))) (sSeq (sFor (iRange1 (dCons (dVar 0) dNil)) (gVar 5) (sSeq (sAsg (dC .non) (gVar 4)) (sSeq (sFor (iSeq (dVar 1)) (gVar 6) (sIf (tOf (dOp fLtD (dOp fAdd (dOp fIx (dVar 2) (dOp fIx (dVar 6) (dC (.int 0)))) (dOp fIx (dVar 6) (dC (.int 2)))) (dOp fIx (dVar 2) (dOp fIx (dVar 6) (dC (.int 1)))))) (sSeq (sAsg (dTup (dCons (dOp fAdd (dOp fIx (dVar 2) (dOp fIx (dVar 6) (dC (.int 0)))) (dOp fIx (dVar 6) (dC (.int 2)))) (dCons (dVar 6) dNil))) (gTup 2 (gCons (gSub (dVar 2) (dOp fIx (dVar 6) (dC (.int 1)))) (gCons (gSub (dVar 3) (dOp fIx (dVar 6) (dC (.int 1)))) gNil)))) (sAsg (dOp fIx (dVar 6) (dC (.int 1))) (gVar 4))) sNext)) (sIf (tOf (dOp fIs (dVar 4) (dC .non))) (sFrz 2 (sRet (dTup (dCons (dVar 2) (dCons (dC .non) dNil))))) sNext)))) (sSeq (sFor (iRange1 (dCons (dVar 0) dNil)) (gVar 5) (sAsg (dOp fIx (dOp fIx (dVar 3) (dVar 4)) (dC (.int 0))) (gVar 4))) (sSeq (sPar 7 8 (dCons (dLstM (dCons (dOp fIx (dOp fIx (dVar 3) (dVar 4)) (dC (.int 3))) dNil)) (dCons (dOp fIx (dOp fIx (dVar 3) (dVar 4)) (dC (.int 0))) dNil))) (sSeq (sWhile (tOf (dOp fNe (dVar 8) (dVar 4))) (sSeq (sDrop (dMeth tyLst rApp (dVar 7) (dCons (dOp fIx (dOp fIx (dVar 3) (dVar 8)) (dC (.int 3))) dNil))) (sAsg (dOp fIx (dOp fIx (dVar 3) (dVar 8)) (dC (.int 0))) (gVar 8)))) (sRet (dTup (dCons (dC .non) (dCons (dFn gTuple (dCons (dRev none (dVar 7)) dNil)) dNil)))))))))
theorem sim_settled : SimS K (t_settled K ) f_settled := by
  unfold t_settled f_settled
  exact (sims_seq (sims_par3O (ind_opM (ind_lst (inda_cons ind_c inda_nil)) (ind_var (by decide))) ind_c ind_c (mono_opM (mono_lst (mono_cons mono_c mono_nil)) mono_var) (sims_seq (sims_asgO (simo_op opv_mul (simv_so (sim_lst (sima_cons sim_c sima_nil))) (simv_so sim_var))) (sims_seq (sims_asgO (simo_nr (simo_op opv_mul (simv_so (sim_lst (sima_cons sim_c sima_nil))) (simv_so sim_var)))) (sims_asg (sim_nr sim_c) simg_var)))) (sims_seq (sims_for (simi_range1 (sima_cons sim_var sima_nil)) simg_var (sims_seq (sims_asg sim_c simg_var) (sims_seq (sims_for (simi_seq (simv_so sim_var)) simg_var (sims_if (simt_t (sim_op opv_ltD (simv_so (sim_op opv_add (simv_so (sim_op opv_ix simv_sl (simv_so (sim_op opv_ix (simv_so sim_var) (simv_so sim_c))))) (simv_so (sim_op opv_ix (simv_so sim_var) (simv_so sim_c))))) (simv_so (sim_op opv_ix simv_sl (simv_so (sim_op opv_ix (simv_so sim_var) (simv_so sim_c))))))) (sims_seq (sims_asg (sim_tup (sima_cons (sim_op opv_add (simv_so (sim_op opv_ix simv_sl (simv_so (sim_op opv_ix (simv_so sim_var) (simv_so sim_c))))) (simv_so (sim_op opv_ix (simv_so sim_var) (simv_so sim_c)))) (sima_cons sim_var sima_nil))) (simg_tup (simg_cons (simg_sub (K := K) (sim_op opv_ix (simv_so sim_var) (simv_so sim_c))) (simg_cons (simg_sub (K := K) (sim_op opv_ix (simv_so sim_var) (simv_so sim_c))) simg_nil)))) (sims_asg (sim_op opv_ix (simv_so sim_var) (simv_so sim_c)) simg_var)) sims_next)) (sims_if (simt_t (sim_op opv_is (simv_so sim_var) (simv_so sim_c))) (sims_frz 2 (sims_ret (sim_tup (sima_cons sim_var (sima_cons sim_c sima_nil))))) sims_next)))) (sims_seq (sims_for (simi_range1 (sima_cons sim_var sima_nil)) simg_var (sims_asg (sim_op opv_ix (simv_so (sim_op opv_ix simv_sl (simv_so sim_var))) (simv_so sim_c)) simg_var)) (sims_seq (sims_par2O (ind_op (ind_op (ind_var (by decide)) (ind_var (by decide))) ind_c) (mono_lstM (mono_cons (mono_op (mono_op mono_var mono_var) mono_c) mono_nil)) (sims_seq (sims_asgO (simo_lst (sima_cons (sim_op opv_ix (simv_so (sim_op opv_ix simv_sl (simv_so sim_var))) (simv_so sim_c)) sima_nil))) (sims_asg (sim_nr (sim_op opv_ix (simv_so (sim_op opv_ix simv_sl (simv_so sim_var))) (simv_so sim_c))) simg_var))) (sims_seq (sims_while (simt_t (sim_op opv_ne (simv_so sim_var) (simv_so sim_var))) (sims_seq (sims_drop (sim_app (sima_cons (sim_op opv_ix (simv_so (sim_op opv_ix simv_sl (simv_so sim_var))) (simv_so sim_c)) sima_nil))) (sims_asg (sim_op opv_ix (simv_so (sim_op opv_ix simv_sl (simv_so sim_var))) (simv_so sim_c)) simg_var))) (sims_ret (sim_tup (sima_cons sim_c (sima_cons (sim_fn olv_tuple (simvs_cons (simv_so (sim_rev simv_sl)) simvs_nil)) sima_nil)))))))))
theorem rdx_settled : ∀ ds M Q E, (fP K 2 F_settled) ds M Q E → (t_settled K ) (endF Q E) (startD ["many", "links", "times", "came", "last", "turn", "link", "found", "here"] ds) M := by
  unfold F_settled
  exact rd_m (N := ["many", "links", "times", "came", "last", "turn", "link", "found", "here"]) rfl (sim_settled (K := K))
theorem ok_settled (B : Bs K mg) (Z : DefAt K mg "settled" s_settled)  : FnX P w K mg base T false (k + 1) "settled" ["many", "links"] (fP K 2 F_settled) := by
  exact fnx_of (k := k) Z sc_settled bn_settled len_f mono_f (t := (t_settled K )) (fun f cdv A outer s H M E hr hg => by
    unfold t_settled
    exact (dss_cons (ds_par3 2 3 4 (da_cons (de_mulM (de_lst (da_cons de_int da_nil)) (dvl 0)) (da_cons (de_mulM (de_lst (da_cons de_non da_nil)) (dvl 0)) (da_cons de_non da_nil)))) (dss_cons (ds_for rfl (di_range1 rfl B.b_range (da_cons (dvl 0) da_nil)) (dgl 5) (dss_cons (dsl 4 de_non) (dss_cons (ds_for rfl (di_seq (dvl 1)) (dgl 6) (dss_one (ds_if (dt_cmp dop_ltD (de_op dop_add (de_ix (dvl 2) (de_ix (dvl 6) de_int)) (de_ix (dvl 6) de_int)) (de_ix (dvl 2) (de_ix (dvl 6) de_int))) (dss_cons (ds_asg (de_tup (da_cons (de_op dop_add (de_ix (dvl 2) (de_ix (dvl 6) de_int)) (de_ix (dvl 6) de_int)) (da_cons (dvl 6) da_nil))) (dg_tup rfl (dgs_cons (dg_sub (dvl 2) (de_ix (dvl 6) de_int)) (dgs_cons (dg_sub (dvl 3) (de_ix (dvl 6) de_int)) dgs_nil)))) (dss_one (dsl 4 (de_ix (dvl 6) de_int)))) dss_nil))) (dss_one (ds_if (dt_cmp dop_is (dvl 4) de_non) (dss_frz 2 (dss_one (ds_ret (de_tup (da_cons (dvl 2) (da_cons de_non da_nil)))))) dss_nil))))) (dss_cons (ds_for rfl (di_range1 rfl B.b_range (da_cons (dvl 0) da_nil)) (dgl 5) (dss_one (dsl 4 (de_ix (de_ix (dvl 3) (dvl 4)) de_int)))) (dss_cons (ds_par 7 8 (da_cons (de_lstM (da_cons (de_ix (de_ix (dvl 3) (dvl 4)) de_int) da_nil)) (da_cons (de_ix (de_ix (dvl 3) (dvl 4)) de_int) da_nil))) (dss_cons (ds_while (dt_cmp dop_ne (dvl 8) (dvl 4)) (dss_cons (ds_expr (de_append (dvl 7) (da_cons (de_ix (de_ix (dvl 3) (dvl 8)) de_int) da_nil))) (dss_one (dsl 8 (de_ix (de_ix (dvl 3) (dvl 8)) de_int))))) (dss_one (ds_ret (de_tup (da_cons de_non (da_cons (dct B.b_tuple bb_tuple cl_tuple (da_cons (de_rev (dvl 7)) da_nil)) da_nil))))))))))) (rdx_settled)
theorem sc_next_bound : FnScope ["minutes", "bounds", "told", "known", "number", "bound", "turn"] ["minutes", "bounds", "told"] (defScope s_next_bound) := ⟨rfl, rfl, rfl, by decide +kernel, rfl, by decide +kernel, by decide +kernel⟩
theorem bn_next_bound : BindN "next_bound" s_next_bound ["minutes", "bounds", "told"] := fun _ _ _ _ _ _ us hl => match us, hl with | [_, _, _], _ => rfl
def t_next_bound (K : PySem.W.Frag) : DS := (sSeq (sAsg (dComp (iSeq (dVar 2)) (gTup 2 (gCons (gVar 4) (gCons (gVar 6) gNil))) tYesD (dVar 4) [4, 6]) (gVar 3)) (sSeq (sFor (iEnumD (dCons (dVar 1) dNil)) (gTup 2 (gCons (gVar 4) (gCons (gVar 5) gNil))) (sIf (tAnd (tOf (dOp fNotIn (dVar 4) (dVar 3))) (tOf (dOp fLtD (dOp fSub (dOp fIx (dVar 5) (dC (.int 3))) (dOp fIx (dVar 5) (dC (.int 2)))) (dOp fSub (dVar 0) (dC (.int 1)))))) (sRet (dVar 4)) sNext)) (sRet (dC .non))))
theorem sim_next_bound : SimS K (t_next_bound K ) f_next_bound := by
  unfold t_next_bound f_next_bound
  exact (sims_seq (sims_asg (sim_comp (simi_seq (simv_so sim_var)) (simw_tup (simw_cons simw_var (simw_cons simw_var simw_nil))) simt_y sim_var) simg_var) (sims_seq (sims_for (simi_enum (simvs_cons (simv_so sim_var) simvs_nil)) (simg_tup (simg_cons simg_var (simg_cons simg_var simg_nil))) (sims_if (simt_a (simt_t (sim_op opv_notIn (simv_so sim_var) (simv_so sim_var))) (simt_t (sim_op opv_ltD (simv_so (sim_op opv_sub (simv_so (sim_op opv_ix (simv_so sim_var) (simv_so sim_c))) (simv_so (sim_op opv_ix (simv_so sim_var) (simv_so sim_c))))) (simv_so (sim_op opv_sub (simv_so sim_var) (simv_so sim_c)))))) (sims_ret sim_var) sims_next)) (sims_ret sim_c)))
theorem rdx_next_bound : ∀ ds M Q E, (fP K 3 F_next_bound) ds M Q E → (t_next_bound K ) (endF Q E) (startD ["minutes", "bounds", "told", "known", "number", "bound", "turn"] ds) M := by
  unfold F_next_bound
  exact rd_m (N := ["minutes", "bounds", "told", "known", "number", "bound", "turn"]) rfl (sim_next_bound (K := K))
theorem ok_next_bound (B : Bs K mg) (Z : DefAt K mg "next_bound" s_next_bound)  : FnX P w K mg base T false (k + 1) "next_bound" ["minutes", "bounds", "told"] (fP K 3 F_next_bound) := by
  exact fnx_of (k := k) Z sc_next_bound bn_next_bound len_f mono_f (t := (t_next_bound K )) (fun f cdv A outer s H M E hr hg => by
    unfold t_next_bound
    exact (dss_cons (ds_comp (own := [("number", 4), ("turn", 6)]) (i := 3) rfl rfl rfl (sw_true rfl rfl rfl rfl) (di_seq (dvl 2)) (blkOk_by (by kernel_rfl)) (fun _ _ _ _ _ => (dw_tup rfl (dws_cons (dwl 4) (dws_cons (dwl 6) dws_nil)))) (fun _ _ _ _ _ => dts_nil) (fun _ _ _ _ _ => (dvl 4))) (dss_cons (ds_for rfl (di_enum rfl B.b_enumerate (da_cons (dvl 1) da_nil)) (dg_tup rfl (dgs_cons (dgl 4) (dgs_cons (dgl 5) dgs_nil))) (dss_one (ds_if (dt_and (dt_cmp dop_notIn (dvl 4) (dvl 3)) (dt_and1 (dt_cmp dop_ltD (de_op dop_sub (de_ix (dvl 5) de_int) (de_ix (dvl 5) de_int)) (de_op dop_sub (dvl 0) de_int)))) (dss_one (ds_ret (dvl 4))) dss_nil))) (dss_one (ds_ret de_non))))) (rdx_next_bound)
theorem sc_put_together : FnScope ["notes", "trees", "place", "note", "lesser"] ["notes"] (defScope s_put_together) := ⟨rfl, rfl, rfl, by decide +kernel, rfl, by decide +kernel, by decide +kernel⟩
theorem bn_put_together : BindN "put_together" s_put_together ["notes"] := fun _ _ _ _ _ _ us hl => match us, hl with | [_], _ => rfl
def t_put_together (K : PySem.W.Frag) : DS := (sSeq (sAsg (dOpM fMul (dLst (dCons (dC .non) dNil)) (dFn gLen (dCons (dVar 0) dNil))) (gVar 1)) (sSeq (sFor (iRangeN (dCons (dOp fSub (dFn gLen (dCons (dVar 0) dNil)) (dC (.int 1))) (dCons (dNeg (dC (.int 1))) (dCons (dNeg (dC (.int 1))) dNil)))) (gVar 2) (sSeq (sAsg (dOp fIx (dVar 0) (dVar 2)) (gVar 3)) (sIf (tOf (dOp fEq (dFn gLen (dCons (dVar 3) dNil)) (dC (.int 1)))) (sAsg (dTup (dCons (dC (.str "ring")) (dCons (dOp fIx (dVar 3) (dC (.int 0))) dNil))) (gSub (dVar 1) (dVar 2))) (sAsg (dTup (dCons (dC (.str "turns")) (dCons (dOp fIx (dVar 3) (dC (.int 0))) (dCons (dFn gTuple (dCons (dComp (iSeq (dOp fIx (dVar 3) (dC (.int 1)))) (gVar 4) tYesD (dOp fIx (dVar 1) (dVar 4)) [4]) dNil)) dNil)))) (gSub (dVar 1) (dVar 2)))))) (sRet (dOp fIx (dVar 1) (dC (.int 0))))))
theorem sim_put_together : SimS K (t_put_together K ) f_put_together := by
  unfold t_put_together f_put_together
  exact (sims_seq (sims_asgO (simo_op opv_mul (simv_so (sim_lst (sima_cons sim_c sima_nil))) (simv_so (sim_fn olv_len (simvs_cons (simv_so sim_var) simvs_nil))))) (sims_seq (sims_for (simi_rangeN (sima_cons (sim_op opv_sub (simv_so (sim_fn olv_len (simvs_cons (simv_so sim_var) simvs_nil))) (simv_so sim_c)) (sima_cons (sim_neg sim_c) (sima_cons (sim_neg sim_c) sima_nil)))) simg_var (sims_seq (sims_asg (sim_op opv_ix (simv_so sim_var) (simv_so sim_var)) simg_var) (sims_if (simt_t (sim_op opv_eq (simv_so (sim_fn olv_len (simvs_cons (simv_so sim_var) simvs_nil))) (simv_so sim_c))) (sims_asg (sim_tup (sima_cons sim_c (sima_cons (sim_op opv_ix (simv_so sim_var) (simv_so sim_c)) sima_nil))) (simg_sub (K := K) sim_var)) (sims_asg (sim_tup (sima_cons sim_c (sima_cons (sim_op opv_ix (simv_so sim_var) (simv_so sim_c)) (sima_cons (sim_fn olv_tuple (simvs_cons (simv_so (sim_comp (simi_seq (simv_so (sim_op opv_ix (simv_so sim_var) (simv_so sim_c)))) simw_var simt_y (sim_op opv_ix simv_sl (simv_so sim_var)))) simvs_nil)) sima_nil)))) (simg_sub (K := K) sim_var))))) (sims_ret (sim_op opv_ix simv_sl (simv_so sim_c)))))
theorem rdx_put_together : ∀ ds M Q E, (fP K 1 F_put_together) ds M Q E → (t_put_together K ) (endF Q E) (startD ["notes", "trees", "place", "note", "lesser"] ds) M := by
  unfold F_put_together
  exact rd_m (N := ["notes", "trees", "place", "note", "lesser"]) rfl (sim_put_together (K := K))
theorem ok_put_together (B : Bs K mg) (Z : DefAt K mg "put_together" s_put_together)  : FnX P w K mg base T false (k + 1) "put_together" ["notes"] (fP K 1 F_put_together) := by
  exact fnx_of (k := k) Z sc_put_together bn_put_together len_f mono_f (t := (t_put_together K )) (fun f cdv A outer s H M E hr hg => by
    unfold t_put_together
    exact (dss_cons (dsc 1 (de_mulM (de_lst (da_cons de_non da_nil)) (dcb B.b_len bb_len cl_len (da_cons (dvl 0) da_nil)))) (dss_cons (ds_for rfl (di_rangeN rfl B.b_range (da_cons (de_op dop_sub (dcb B.b_len bb_len cl_len (da_cons (dvl 0) da_nil)) de_int) (da_cons (de_neg de_int) (da_cons (de_neg de_int) da_nil)))) (dgl 2) (dss_cons (dsl 3 (de_ix (dvl 0) (dvl 2))) (dss_one (ds_if (dt_cmp dop_eq (dcb B.b_len bb_len cl_len (da_cons (dvl 3) da_nil)) de_int) (dss_one (ds_asg (de_tup (da_cons (dgs B.c_RING) (da_cons (de_ix (dvl 3) de_int) da_nil))) (dg_sub (dvc 1) (dvl 2)))) (dss_one (ds_asg (de_tup (da_cons (dgs B.c_TURNS) (da_cons (de_ix (dvl 3) de_int) (da_cons (dct B.b_tuple bb_tuple cl_tuple (da_cons (de_comp (own := [("lesser", 4)]) rfl (di_seq (de_ix (dvl 3) de_int)) (blkOk_by (by kernel_rfl)) (fun _ _ _ _ _ => (dwl 4)) (fun _ _ _ _ _ => dts_nil) (fun _ _ _ _ _ => (de_ix (dvc 1) (dvl 4)))) da_nil)) da_nil)))) (dg_sub (dvc 1) (dvl 2)))))))) (dss_one (ds_ret (de_ix (dvc 1) de_int)))))) (rdx_put_together)
theorem sc_raw_told : FnScope ["minutes", "many", "bounds", "notes", "branches", "waiting", "place", "told", "times", "ring", "number", "some", "lesser", "one", "turn"] ["minutes", "many", "bounds"] (defScope s_raw_told) := ⟨rfl, rfl, rfl, by decide +kernel, rfl, by decide +kernel, by decide +kernel⟩
theorem bn_raw_told : BindN "raw_told" s_raw_told ["minutes", "many", "bounds"] := fun _ _ _ _ _ _ us hl => match us, hl with | [_, _, _], _ => rfl
def t_raw_told (K : PySem.W.Frag) (sp_possible_turns sp_links_of sp_settled sp_next_bound sp_put_together : DSp) : DS := (sSeq (sPar3 3 4 5 (dCons (dLstM (dCons (dC .non) dNil)) (dCons (dLstM (dCons (dTup dNil) dNil)) (dCons (dLstM (dCons (dC (.int 0)) dNil)) dNil)))) (sSeq (sWhile (tOf (dOp fGtD (dFn gLen (dCons (dVar 5) dNil)) (dC (.int 0)))) (sSeq (sAsg (dMeth tyLst rPop0 (dVar 5) dNil) (gVar 6)) (sSeq (sAsg (dOp fIx (dVar 4) (dVar 6)) (gVar 7)) (sSeq (sAsg (dCall sp_settled (dCons (dVar 1) (dCons (dCall sp_links_of (dCons (dVar 0) (dCons (dVar 1) (dCons (dVar 2) (dCons (dVar 7) dNil))))) dNil))) (gTup 2 (gCons (gVar 8) (gCons (gVar 9) gNil)))) (sSeq (sAsg (dCall sp_next_bound (dCons (dVar 0) (dCons (dVar 2) (dCons (dVar 7) dNil)))) (gVar 10)) (sIf (tOf (dOp fIsNot (dVar 9) (dC .non))) (sAsg (dTup (dCons (dVar 9) dNil)) (gSub (dVar 3) (dVar 6))) (sIf (tOf (dOp fIs (dVar 10) (dC .non))) (sRet (dTup (dCons (dC (.str "times")) (dCons (dFn gTuple (dCons (dComp (iSeq (dVar 8)) (gVar 13) tYesD (dOp fSub (dVar 13) (dFn gMin (dCons (dVar 8) dNil))) [13]) dNil)) dNil)))) (sSeq (sAsg (dCall sp_possible_turns (dCons (dVar 0) (dCons (dOp fIx (dVar 2) (dVar 10)) dNil))) (gVar 11)) (sSeq (sAsg (dRgL (dFn gLen (dCons (dVar 3) dNil)) (dOp fAdd (dFn gLen (dCons (dVar 3) dNil)) (dFn gLen (dCons (dVar 11) dNil)))) (gVar 12)) (sSeq (sAsg (dTup (dCons (dVar 10) (dCons (dVar 12) dNil))) (gSub (dVar 3) (dVar 6))) (sSeq (sDrop (dMeth tyLst rExt (dVar 3) (dCons (dOp fMul (dLst (dCons (dC .non) dNil)) (dFn gLen (dCons (dVar 11) dNil))) dNil))) (sSeq (sDrop (dMeth tyLst rExt (dVar 4) (dCons (dComp (iSeq (dVar 11)) (gVar 14) tYesD (dOp fAdd (dVar 7) (dTup (dCons (dTup (dCons (dVar 10) (dCons (dVar 14) dNil))) dNil))) [14]) dNil))) (sSeq (sDrop (dMeth tyLst rExt (dVar 5) (dCons (dRev none (dVar 12)) dNil))) (sIf (tOf (dOp fGtD (dFn gLen (dCons (dVar 3) dNil)) (dC (.int 3000)))) sNever sNext)))))))))))))) (sFrz 3 (sRet (dTup (dCons (dC (.str "tree")) (dCons (dCall sp_put_together (dCons (dVar 3) dNil)) dNil)))))))
theorem sim_raw_told : SimS K (t_raw_told K (fP K 2 F_possible_turns) (fP K 4 F_links_of) (fP K 2 F_settled) (fP K 3 F_next_bound) (fP K 1 F_put_together)) f_raw_told := by
  unfold t_raw_told f_raw_told
  exact (sims_seq (sims_par3O (ind_lstM (inda_cons (ind_tup inda_nil) inda_nil)) (ind_lstM (inda_cons ind_c inda_nil)) (ind_lstM (inda_cons ind_c inda_nil)) (mono_lstM (mono_cons mono_c mono_nil)) (sims_seq (sims_asgO (simo_lst (sima_cons sim_c sima_nil))) (sims_seq (sims_asgO (simo_nr (simo_lst (sima_cons (sim_tup sima_nil) sima_nil)))) (sims_asgO (simo_nr (simo_lst (sima_cons sim_c sima_nil))))))) (sims_seq (sims_while (simt_t (sim_op opv_gtD (simv_so (sim_fn olv_len (simvs_cons simv_sl simvs_nil))) (simv_so sim_c))) (sims_seq (sims_asg sim_pop0 simg_var) (sims_seq (sims_asg (sim_op opv_ix simv_sl (simv_so sim_var)) simg_var) (sims_seq (sims_asg (sim_call (sima_cons sim_var (sima_cons (sim_call (sima_cons sim_var (sima_cons sim_var (sima_cons sim_var (sima_cons sim_var sima_nil)))) (na_cons (na_cons (na_cons (na_cons na_nil))))) sima_nil)) (na_cons (na_cons na_nil))) (simg_tup (simg_cons simg_var (simg_cons simg_var simg_nil)))) (sims_seq (sims_asg (sim_call (sima_cons sim_var (sima_cons sim_var (sima_cons sim_var sima_nil))) (na_cons (na_cons (na_cons na_nil)))) simg_var) (sims_if (simt_t (sim_op opv_isNot (simv_so sim_var) (simv_so sim_c))) (sims_asg (sim_tup (sima_cons sim_var sima_nil)) (simg_sub (K := K) sim_var)) (sims_if (simt_t (sim_op opv_is (simv_so sim_var) (simv_so sim_c))) (sims_ret (sim_tup (sima_cons sim_c (sima_cons (sim_fn olv_tuple (simvs_cons (simv_so (sim_comp (simi_seq (simv_so sim_var)) simw_var simt_y (sim_op opv_sub (simv_so sim_var) (simv_so (sim_fn olv_min (simvs_cons (simv_so sim_var) simvs_nil)))))) simvs_nil)) sima_nil)))) (sims_seq (sims_asg (sim_call (sima_cons sim_var (sima_cons (sim_op opv_ix (simv_so sim_var) (simv_so sim_var)) sima_nil)) (na_cons (na_cons na_nil))) simg_var) (sims_seq (sims_asg (sim_rgL (sim_fn olv_len (simvs_cons simv_sl simvs_nil)) (sim_op opv_add (simv_so (sim_fn olv_len (simvs_cons simv_sl simvs_nil))) (simv_so (sim_fn olv_len (simvs_cons (simv_so sim_var) simvs_nil))))) simg_var) (sims_seq (sims_asg (sim_tup (sima_cons sim_var (sima_cons sim_var sima_nil))) (simg_sub (K := K) sim_var)) (sims_seq (sims_drop (sim_ext (simvs_cons (simv_so (sim_op opv_mul (simv_so (sim_lst (sima_cons sim_c sima_nil))) (simv_so (sim_fn olv_len (simvs_cons (simv_so sim_var) simvs_nil))))) simvs_nil))) (sims_seq (sims_drop (sim_ext (simvs_cons (simv_so (sim_comp (simi_seq (simv_so sim_var)) simw_var simt_y (sim_op opv_add (simv_so sim_var) (simv_so (sim_tup (sima_cons (sim_tup (sima_cons sim_var (sima_cons sim_var sima_nil))) sima_nil)))))) simvs_nil))) (sims_seq (sims_drop (sim_ext (simvs_cons (simv_so (sim_rev (simv_so sim_var))) simvs_nil))) (sims_if (simt_t (sim_op opv_gtD (simv_so (sim_fn olv_len (simvs_cons simv_sl simvs_nil))) (simv_so sim_c))) sims_never sims_next)))))))))))))) (sims_frz 3 (sims_ret (sim_tup (sima_cons sim_c (sima_cons (sim_call (sima_cons sim_var sima_nil) (na_cons na_nil)) sima_nil)))))))
theorem rdx_raw_told : ∀ ds M Q E, (fP K 3 F_raw_told) ds M Q E → (t_raw_told K (fP K 2 F_possible_turns) (fP K 4 F_links_of) (fP K 2 F_settled) (fP K 3 F_next_bound) (fP K 1 F_put_together)) (endF Q E) (startD ["minutes", "many", "bounds", "notes", "branches", "waiting", "place", "told", "times", "ring", "number", "some", "lesser", "one", "turn"] ds) M := by
  unfold F_raw_told
  exact rd_m (N := ["minutes", "many", "bounds", "notes", "branches", "waiting", "place", "told", "times", "ring", "number", "some", "lesser", "one", "turn"]) rfl (sim_raw_told (K := K))
theorem ok_raw_told (B : Bs K mg) (Z : DefAt K mg "raw_told" s_raw_told) (g_possible_turns : FnX P w K mg base T false k "possible_turns" ["minutes", "bound"] (fP K 2 F_possible_turns)) (g_links_of : FnX P w K mg base T false k "links_of" ["minutes", "many", "bounds", "told"] (fP K 4 F_links_of)) (g_settled : FnX P w K mg base T false k "settled" ["many", "links"] (fP K 2 F_settled)) (g_next_bound : FnX P w K mg base T false k "next_bound" ["minutes", "bounds", "told"] (fP K 3 F_next_bound)) (g_put_together : FnX P w K mg base T false k "put_together" ["notes"] (fP K 1 F_put_together)) : FnX P w K mg base T false (k + 1) "raw_told" ["minutes", "many", "bounds"] (fP K 3 F_raw_told) := by
  have hkk : Nat.ble k k = true := Nat.ble_self_eq_true k
  exact fnx_of (k := k) Z sc_raw_told bn_raw_told len_f mono_f (t := (t_raw_told K (fP K 2 F_possible_turns) (fP K 4 F_links_of) (fP K 2 F_settled) (fP K 3 F_next_bound) (fP K 1 F_put_together))) (fun f cdv A outer s H M E hr hg => by
    unfold t_raw_told
    exact (dss_cons (ds_par3 3 4 5 (da_cons (de_lstM (da_cons de_non da_nil)) (da_cons (de_lstM (da_cons (de_tup da_nil) da_nil)) (da_cons (de_lstM (da_cons de_int da_nil)) da_nil)))) (dss_cons (ds_while (dt_cmp dop_gtD (dcb B.b_len bb_len cl_len (da_cons (dvl 5) da_nil)) de_int) (dss_cons (dsl 6 (de_pop0 (dvl 5))) (dss_cons (dsc 7 (de_ix (dvl 4) (dvl 6))) (dss_cons (ds_asg (dcx g_settled (da_cons (dvl 1) (da_cons (dcx g_links_of (da_cons (dvl 0) (da_cons (dvl 1) (da_cons (dvl 2) (da_cons (dvc 7) da_nil)))) hkk) da_nil)) hkk) (dg_tup rfl (dgs_cons (dgc 8) (dgs_cons (dgl 9) dgs_nil)))) (dss_cons (dsc 10 (dcx g_next_bound (da_cons (dvl 0) (da_cons (dvl 2) (da_cons (dvc 7) da_nil))) hkk)) (dss_one (ds_if (dt_cmp dop_isNot (dvl 9) de_non) (dss_one (ds_asg (de_tup (da_cons (dvl 9) da_nil)) (dg_sub (dvl 3) (dvl 6)))) (dss_one (ds_if (dt_cmp dop_is (dvc 10) de_non) (dss_one (ds_ret (de_tup (da_cons (dgs B.c_TIMES) (da_cons (dct B.b_tuple bb_tuple cl_tuple (da_cons (de_comp (own := [("one", 13)]) rfl (di_seq (dvc 8)) (blkOk_by (by kernel_rfl)) (fun _ _ _ _ _ => (dwl 13)) (fun _ _ _ _ _ => dts_nil) (fun _ _ _ _ _ => (de_op dop_sub (dvl 13) (dcb B.b_min bb_min (cl_min rfl) (da_cons (dvc 8) da_nil))))) da_nil)) da_nil))))) (dss_cons (dsl 11 (dcx g_possible_turns (da_cons (dvl 0) (da_cons (de_ix (dvl 2) (dvc 10)) da_nil)) hkk)) (dss_cons (dsl 12 (de_lstRg2 rfl B.b_range rfl B.b_list rfl (dcb B.b_len bb_len cl_len (da_cons (dvl 3) da_nil)) (de_op dop_add (dcb B.b_len bb_len cl_len (da_cons (dvl 3) da_nil)) (dcb B.b_len bb_len cl_len (da_cons (dvl 11) da_nil))))) (dss_cons (ds_asg (de_tup (da_cons (dvc 10) (da_cons (dvl 12) da_nil))) (dg_sub (dvl 3) (dvl 6))) (dss_cons (ds_expr (de_extend (dvl 3) (da_cons (de_op dop_mul2 (de_lst (da_cons de_non da_nil)) (dcb B.b_len bb_len cl_len (da_cons (dvl 11) da_nil))) da_nil))) (dss_cons (ds_expr (de_extend (dvl 4) (da_cons (de_comp (own := [("turn", 14)]) rfl (di_seq (dvl 11)) (blkOk_by (by kernel_rfl)) (fun _ _ _ _ _ => (dwl 14)) (fun _ _ _ _ _ => dts_nil) (fun _ _ _ _ _ => (de_op dop_add (dvc 7) (de_tup (da_cons (de_tup (da_cons (dvc 10) (da_cons (dvl 14) da_nil))) da_nil))))) da_nil))) (dss_cons (ds_expr (de_extend (dvl 5) (da_cons (de_rev (dvl 12)) da_nil))) (dss_one (ds_if (dt_cmp dop_gtD (dcb B.b_len bb_len cl_len (da_cons (dvl 3) da_nil)) (dgi B.c_MOST_TREES)) (dss_one ds_never) dss_nil))))))))))))))))) (dss_frz 3 (dss_one (ds_ret (de_tup (da_cons (dgs B.c_TREE) (da_cons (dcx g_put_together (da_cons (dvl 3) da_nil) hkk) da_nil))))))))) (rdx_raw_told)
theorem sc_windows : FnScope ["minutes", "many", "bounds", "event", "found", "time"] ["minutes", "many", "bounds", "event"] (defScope s_windows) := ⟨rfl, rfl, rfl, by decide +kernel, rfl, by decide +kernel, by decide +kernel⟩
theorem bn_windows : BindN "windows" s_windows ["minutes", "many", "bounds", "event"] := fun _ _ _ _ _ _ us hl => match us, hl with | [_, _, _, _], _ => rfl
def t_windows (K : PySem.W.Frag) (sp_is_within sp_check_timetable sp_raw_told : DSp) : DS := (sSeq (sDrop (dCall sp_check_timetable (dCons (dVar 0) (dCons (dVar 1) (dCons (dVar 2) dNil))))) (sSeq (sIf (tNot (tOf (dCall sp_is_within (dCons (dVar 3) (dCons (dC (.int 0)) (dCons (dOp fSub (dVar 1) (dC (.int 1))) dNil)))))) (sRaise (cl K "NoEvent")) sNext) (sSeq (sIf (tOf (dOp fEq (dVar 3) (dC (.int 0)))) (sRet (dIf (tOf (dOp fEq (dOp fIx (dCall sp_raw_told (dCons (dVar 0) (dCons (dVar 1) (dCons (dVar 2) dNil)))) (dC (.int 0))) (dC (.str "times")))) (dTup (dCons (dC (.int 0)) dNil)) (dTup dNil))) sNext) (sSeq (sAsg (dLstM dNil) (gVar 4)) (sSeq (sFor (iRange1 (dCons (dVar 0) dNil)) (gVar 5) (sIf (tOf (dOp fEq (dOp fIx (dCall sp_raw_told (dCons (dVar 0) (dCons (dVar 1) (dCons (dOp fAdd (dVar 2) (dTup (dCons (dTup (dCons (dC (.int 0)) (dCons (dVar 3) (dCons (dVar 5) (dCons (dVar 5) dNil))))) dNil))) dNil)))) (dC (.int 0))) (dC (.str "times")))) (sDrop (dMeth tyLst rApp (dVar 4) (dCons (dVar 5) dNil))) sNext)) (sRet (dFn gTuple (dCons (dVar 4) dNil))))))))
theorem sim_windows : SimS K (t_windows K (fP K 3 F_is_within) (fP K 3 F_check_timetable) (fP K 3 F_raw_told)) f_windows := by
  unfold t_windows f_windows
  exact (sims_seq (sims_drop (sim_call (sima_cons sim_var (sima_cons sim_var (sima_cons sim_var sima_nil))) (na_cons (na_cons (na_cons na_nil))))) (sims_seq (sims_if (simt_n (simt_t (sim_call (sima_cons sim_var (sima_cons sim_c (sima_cons (sim_op opv_sub (simv_so sim_var) (simv_so sim_c)) sima_nil))) (na_cons (na_cons (na_cons na_nil)))))) sims_raise sims_next) (sims_seq (sims_if (simt_t (sim_op opv_eq (simv_so sim_var) (simv_so sim_c))) (sims_ret (sim_if (simt_t (sim_op opv_eq (simv_so (sim_op opv_ix (simv_so (sim_call (sima_cons sim_var (sima_cons sim_var (sima_cons sim_var sima_nil))) (na_cons (na_cons (na_cons na_nil))))) (simv_so sim_c))) (simv_so sim_c))) (sim_tup (sima_cons sim_c sima_nil)) (sim_tup sima_nil))) sims_next) (sims_seq (sims_asgO (simo_lst sima_nil)) (sims_seq (sims_for (simi_range1 (sima_cons sim_var sima_nil)) simg_var (sims_if (simt_t (sim_op opv_eq (simv_so (sim_op opv_ix (simv_so (sim_call (sima_cons sim_var (sima_cons sim_var (sima_cons (sim_op opv_add (simv_so sim_var) (simv_so (sim_tup (sima_cons (sim_tup (sima_cons sim_c (sima_cons sim_var (sima_cons sim_var (sima_cons sim_var sima_nil))))) sima_nil)))) sima_nil))) (na_cons (na_cons (na_cons na_nil))))) (simv_so sim_c))) (simv_so sim_c))) (sims_drop (sim_app (sima_cons sim_var sima_nil))) sims_next)) (sims_ret (sim_fn olv_tuple (simvs_cons simv_sl simvs_nil))))))))
theorem rdx_windows : ∀ ds M Q E, (fP K 4 F_windows) ds M Q E → (t_windows K (fP K 3 F_is_within) (fP K 3 F_check_timetable) (fP K 3 F_raw_told)) (endF Q E) (startD ["minutes", "many", "bounds", "event", "found", "time"] ds) M := by
  unfold F_windows
  exact rd_m (N := ["minutes", "many", "bounds", "event", "found", "time"]) rfl (sim_windows (K := K))
theorem ok_windows (B : Bs K mg) (Z : DefAt K mg "windows" s_windows) (g_is_within : FnX P w K mg base T false k "is_within" ["thing", "low", "high"] (fP K 3 F_is_within)) (g_check_timetable : FnX P w K mg base T false k "check_timetable" ["minutes", "many", "bounds"] (fP K 3 F_check_timetable)) (g_raw_told : FnX P w K mg base T false k "raw_told" ["minutes", "many", "bounds"] (fP K 3 F_raw_told)) : FnX P w K mg base T false (k + 1) "windows" ["minutes", "many", "bounds", "event"] (fP K 4 F_windows) := by
  have hkk : Nat.ble k k = true := Nat.ble_self_eq_true k
  exact fnx_of (k := k) Z sc_windows bn_windows len_f mono_f (t := (t_windows K (fP K 3 F_is_within) (fP K 3 F_check_timetable) (fP K 3 F_raw_told))) (fun f cdv A outer s H M E hr hg => by
    unfold t_windows
    exact (dss_cons (ds_expr (dcx g_check_timetable (da_cons (dvl 0) (da_cons (dvl 1) (da_cons (dvl 2) da_nil))) hkk)) (dss_cons (ds_if (dt_not (dt_val (dcx g_is_within (da_cons (dvl 3) (da_cons de_int (da_cons (de_op dop_sub (dvl 1) de_int) da_nil))) hkk))) (dss_one (ds_raise0 B.x_NoEvent)) dss_nil) (dss_cons (ds_if (dt_cmp dop_eq (dvl 3) de_int) (dss_one (ds_ret (de_if (dt_cmp dop_eq (de_ix (dcx g_raw_told (da_cons (dvl 0) (da_cons (dvl 1) (da_cons (dvl 2) da_nil))) hkk) de_int) (dgs B.c_TIMES)) (de_tup (da_cons de_int da_nil)) (de_tup da_nil)))) dss_nil) (dss_cons (dsl 4 (de_lstM da_nil)) (dss_cons (ds_for rfl (di_range1 rfl B.b_range (da_cons (dvl 0) da_nil)) (dgl 5) (dss_one (ds_if (dt_cmp dop_eq (de_ix (dcx g_raw_told (da_cons (dvl 0) (da_cons (dvl 1) (da_cons (de_op dop_add (dvl 2) (de_tup (da_cons (de_tup (da_cons de_int (da_cons (dvl 3) (da_cons (dvl 5) (da_cons (dvl 5) da_nil))))) da_nil))) da_nil))) hkk) de_int) (dgs B.c_TIMES)) (dss_one (ds_expr (de_append (dvl 4) (da_cons (dvl 5) da_nil)))) dss_nil))) (dss_one (ds_ret (dct B.b_tuple bb_tuple cl_tuple (da_cons (dvl 4) da_nil)))))))))) (rdx_windows)
theorem sc_least_minutes : FnScope ["many", "bounds", "minutes"] ["many", "bounds"] (defScope s_least_minutes) := ⟨rfl, rfl, rfl, by decide +kernel, rfl, by decide +kernel, by decide +kernel⟩
theorem bn_least_minutes : BindN "least_minutes" s_least_minutes ["many", "bounds"] := fun _ _ _ _ _ _ us hl => match us, hl with | [_, _], _ => rfl
def t_least_minutes (K : PySem.W.Frag) (sp_check_bounds sp_raw_told : DSp) : DS := (sSeq (sDrop (dCall sp_check_bounds (dCons (dVar 0) (dCons (dVar 1) dNil)))) (sSeq (sFor (iRange2 (dCons (dC (.int 2)) (dCons (dOp fAdd (dC (.int 60)) (dC (.int 1))) dNil))) (gVar 2) (sIf (tOf (dOp fEq (dOp fIx (dCall sp_raw_told (dCons (dVar 2) (dCons (dVar 0) (dCons (dVar 1) dNil)))) (dC (.int 0))) (dC (.str "times")))) (sRet (dVar 2)) sNext)) (sRet (dC .non))))
theorem sim_least_minutes : SimS K (t_least_minutes K (fP K 2 F_check_bounds) (fP K 3 F_raw_told)) f_least_minutes := by
  unfold t_least_minutes f_least_minutes
  exact (sims_seq (sims_drop (sim_call (sima_cons sim_var (sima_cons sim_var sima_nil)) (na_cons (na_cons na_nil)))) (sims_seq (sims_for (simi_range2 (sima_cons sim_c (sima_cons (sim_op opv_add (simv_so sim_c) (simv_so sim_c)) sima_nil))) simg_var (sims_if (simt_t (sim_op opv_eq (simv_so (sim_op opv_ix (simv_so (sim_call (sima_cons sim_var (sima_cons sim_var (sima_cons sim_var sima_nil))) (na_cons (na_cons (na_cons na_nil))))) (simv_so sim_c))) (simv_so sim_c))) (sims_ret sim_var) sims_next)) (sims_ret sim_c)))
theorem rdx_least_minutes : ∀ ds M Q E, (fP K 2 F_least_minutes) ds M Q E → (t_least_minutes K (fP K 2 F_check_bounds) (fP K 3 F_raw_told)) (endF Q E) (startD ["many", "bounds", "minutes"] ds) M := by
  unfold F_least_minutes
  exact rd_m (N := ["many", "bounds", "minutes"]) rfl (sim_least_minutes (K := K))
theorem ok_least_minutes (B : Bs K mg) (Z : DefAt K mg "least_minutes" s_least_minutes) (g_check_bounds : FnX P w K mg base T false k "check_bounds" ["many", "bounds"] (fP K 2 F_check_bounds)) (g_raw_told : FnX P w K mg base T false k "raw_told" ["minutes", "many", "bounds"] (fP K 3 F_raw_told)) : FnX P w K mg base T false (k + 1) "least_minutes" ["many", "bounds"] (fP K 2 F_least_minutes) := by
  have hkk : Nat.ble k k = true := Nat.ble_self_eq_true k
  exact fnx_of (k := k) Z sc_least_minutes bn_least_minutes len_f mono_f (t := (t_least_minutes K (fP K 2 F_check_bounds) (fP K 3 F_raw_told))) (fun f cdv A outer s H M E hr hg => by
    unfold t_least_minutes
    exact (dss_cons (ds_expr (dcx g_check_bounds (da_cons (dvl 0) (da_cons (dvl 1) da_nil)) hkk)) (dss_cons (ds_for rfl (di_range2 rfl B.b_range (da_cons (dgi B.c_LEAST_MINUTES) (da_cons (de_op dop_add (dgi B.c_MOST_MINUTES) de_int) da_nil))) (dgl 2) (dss_one (ds_if (dt_cmp dop_eq (de_ix (dcx g_raw_told (da_cons (dvl 2) (da_cons (dvl 0) (da_cons (dvl 1) da_nil))) hkk) de_int) (dgs B.c_TIMES)) (dss_one (ds_ret (dvl 2))) dss_nil))) (dss_one (ds_ret de_non))))) (rdx_least_minutes)
theorem sc_needed_bounds : FnScope ["minutes", "many", "bounds", "found", "number"] ["minutes", "many", "bounds"] (defScope s_needed_bounds) := ⟨rfl, rfl, rfl, by decide +kernel, rfl, by decide +kernel, by decide +kernel⟩
theorem bn_needed_bounds : BindN "needed_bounds" s_needed_bounds ["minutes", "many", "bounds"] := fun _ _ _ _ _ _ us hl => match us, hl with | [_, _, _], _ => rfl
def t_needed_bounds (K : PySem.W.Frag) (sp_check_timetable sp_raw_told : DSp) : DS := (sSeq (sDrop (dCall sp_check_timetable (dCons (dVar 0) (dCons (dVar 1) (dCons (dVar 2) dNil))))) (sSeq (sIf (tOf (dOp fEq (dOp fIx (dCall sp_raw_told (dCons (dVar 0) (dCons (dVar 1) (dCons (dVar 2) dNil)))) (dC (.int 0))) (dC (.str "times")))) (sRet (dTup dNil)) sNext) (sSeq (sAsg (dLstM dNil) (gVar 3)) (sSeq (sFor (iRange1 (dCons (dFn gLen (dCons (dVar 2) dNil)) dNil)) (gVar 4) (sIf (tOf (dOp fEq (dOp fIx (dCall sp_raw_told (dCons (dVar 0) (dCons (dVar 1) (dCons (dOp fAdd (dPart (dVar 2) oNone (oSome (dVar 4))) (dPart (dVar 2) (oSome (dOp fAdd (dVar 4) (dC (.int 1)))) oNone)) dNil)))) (dC (.int 0))) (dC (.str "times")))) (sDrop (dMeth tyLst rApp (dVar 3) (dCons (dVar 4) dNil))) sNext)) (sRet (dFn gTuple (dCons (dVar 3) dNil)))))))
theorem sim_needed_bounds : SimS K (t_needed_bounds K (fP K 3 F_check_timetable) (fP K 3 F_raw_told)) f_needed_bounds := by
  unfold t_needed_bounds f_needed_bounds
  exact (sims_seq (sims_drop (sim_call (sima_cons sim_var (sima_cons sim_var (sima_cons sim_var sima_nil))) (na_cons (na_cons (na_cons na_nil))))) (sims_seq (sims_if (simt_t (sim_op opv_eq (simv_so (sim_op opv_ix (simv_so (sim_call (sima_cons sim_var (sima_cons sim_var (sima_cons sim_var sima_nil))) (na_cons (na_cons (na_cons na_nil))))) (simv_so sim_c))) (simv_so sim_c))) (sims_ret (sim_tup sima_nil)) sims_next) (sims_seq (sims_asgO (simo_lst sima_nil)) (sims_seq (sims_for (simi_range1 (sima_cons (sim_fn olv_len (simvs_cons (simv_so sim_var) simvs_nil)) sima_nil)) simg_var (sims_if (simt_t (sim_op opv_eq (simv_so (sim_op opv_ix (simv_so (sim_call (sima_cons sim_var (sima_cons sim_var (sima_cons (sim_op opv_add (simv_so (sim_part (simv_so sim_var) sim_pnone (sim_psome sim_var))) (simv_so (sim_part (simv_so sim_var) (sim_psome (sim_op opv_add (simv_so sim_var) (simv_so sim_c))) sim_pnone))) sima_nil))) (na_cons (na_cons (na_cons na_nil))))) (simv_so sim_c))) (simv_so sim_c))) (sims_drop (sim_app (sima_cons sim_var sima_nil))) sims_next)) (sims_ret (sim_fn olv_tuple (simvs_cons simv_sl simvs_nil)))))))
theorem rdx_needed_bounds : ∀ ds M Q E, (fP K 3 F_needed_bounds) ds M Q E → (t_needed_bounds K (fP K 3 F_check_timetable) (fP K 3 F_raw_told)) (endF Q E) (startD ["minutes", "many", "bounds", "found", "number"] ds) M := by
  unfold F_needed_bounds
  exact rd_m (N := ["minutes", "many", "bounds", "found", "number"]) rfl (sim_needed_bounds (K := K))
theorem ok_needed_bounds (B : Bs K mg) (Z : DefAt K mg "needed_bounds" s_needed_bounds) (g_check_timetable : FnX P w K mg base T false k "check_timetable" ["minutes", "many", "bounds"] (fP K 3 F_check_timetable)) (g_raw_told : FnX P w K mg base T false k "raw_told" ["minutes", "many", "bounds"] (fP K 3 F_raw_told)) : FnX P w K mg base T false (k + 1) "needed_bounds" ["minutes", "many", "bounds"] (fP K 3 F_needed_bounds) := by
  have hkk : Nat.ble k k = true := Nat.ble_self_eq_true k
  exact fnx_of (k := k) Z sc_needed_bounds bn_needed_bounds len_f mono_f (t := (t_needed_bounds K (fP K 3 F_check_timetable) (fP K 3 F_raw_told))) (fun f cdv A outer s H M E hr hg => by
    unfold t_needed_bounds
    exact (dss_cons (ds_expr (dcx g_check_timetable (da_cons (dvl 0) (da_cons (dvl 1) (da_cons (dvl 2) da_nil))) hkk)) (dss_cons (ds_if (dt_cmp dop_eq (de_ix (dcx g_raw_told (da_cons (dvl 0) (da_cons (dvl 1) (da_cons (dvl 2) da_nil))) hkk) de_int) (dgs B.c_TIMES)) (dss_one (ds_ret (de_tup da_nil))) dss_nil) (dss_cons (dsl 3 (de_lstM da_nil)) (dss_cons (ds_for rfl (di_range1 rfl B.b_range (da_cons (dcb B.b_len bb_len cl_len (da_cons (dvl 2) da_nil)) da_nil)) (dgl 4) (dss_one (ds_if (dt_cmp dop_eq (de_ix (dcx g_raw_told (da_cons (dvl 0) (da_cons (dvl 1) (da_cons (de_op dop_add (de_part (dvl 2) do_none (do_some (dvl 4))) (de_part (dvl 2) (do_some (de_op dop_add (dvl 4) de_int)) do_none)) da_nil))) hkk) de_int) (dgs B.c_TIMES)) (dss_one (ds_expr (de_append (dvl 3) (da_cons (dvl 4) da_nil)))) dss_nil))) (dss_one (ds_ret (dct B.b_tuple bb_tuple cl_tuple (da_cons (dvl 3) da_nil))))))))) (rdx_needed_bounds)
theorem sc__law_hand : FnScope ["script", "cell"] ["script"] (defScope s__law_hand) := ⟨rfl, rfl, rfl, by decide +kernel, rfl, by decide +kernel, by decide +kernel⟩
theorem bn__law_hand : BindN "_law_hand" s__law_hand ["script"] := fun _ _ _ _ _ _ us hl => match us, hl with | [_], _ => rfl
def t__law_hand (K : PySem.W.Frag) : DS := (sRet (dLstM (dCons (dComp (iSeq (dPart (dVar 0) oNone (oSome (dC (.int 63))))) (gVar 1) tYesD (dFn gInt (dCons (dVar 1) dNil)) [1]) (dCons (dC (.int 0)) (dCons (dC (.int 0)) (dCons (dC (.int 0)) dNil))))))
theorem sim__law_hand : SimS K (t__law_hand K ) f__law_hand := by
  unfold t__law_hand f__law_hand
  exact (sims_retO (simo_lst (sima_cons (sim_comp (simi_seq (simv_so (sim_part (simv_so sim_var) sim_pnone (sim_psome sim_c)))) simw_var simt_y (sim_fn olv_int (simvs_cons (simv_so sim_var) simvs_nil))) (sima_cons sim_c (sima_cons sim_c (sima_cons sim_c sima_nil))))))
theorem rdx__law_hand : ∀ ds M Q E, (fPo K 1 F__law_hand) ds M Q E → (t__law_hand K ) (endF Q E) (startD ["script", "cell"] ds) M := by
  unfold F__law_hand
  exact rd_mo (N := ["script", "cell"]) rfl (sim__law_hand (K := K))
theorem ok__law_hand (B : Bs K mg) (Z : DefAt K mg "_law_hand" s__law_hand)  : FnX P w K mg base T false (k + 1) "_law_hand" ["script"] (fPo K 1 F__law_hand) := by
  exact fnx_of (k := k) Z sc__law_hand bn__law_hand len_fo mono_fo (t := (t__law_hand K )) (fun f cdv A outer s H M E hr hg => by
    unfold t__law_hand
    exact (dss_one (ds_ret (de_lstM (da_cons (de_comp (own := [("cell", 1)]) rfl (di_seq (de_part (dvl 0) do_none (do_some de_int))) (blkOk_by (by kernel_rfl)) (fun _ _ _ _ _ => (dwl 1)) (fun _ _ _ _ _ => dts_nil) (fun _ _ _ _ _ => (dct B.b_int bb_int cl_int (da_cons (dvl 1) da_nil)))) (da_cons de_int (da_cons de_int (da_cons de_int da_nil)))))))) (rdx__law_hand)
theorem sc__law_mixed : FnScope ["cell", "turn", "number"] ["cell", "turn"] (defScope s__law_mixed) := ⟨rfl, rfl, rfl, by decide +kernel, rfl, by decide +kernel, by decide +kernel⟩
theorem bn__law_mixed : BindN "_law_mixed" s__law_mixed ["cell", "turn"] := fun _ _ _ _ _ _ us hl => match us, hl with | [_, _], _ => rfl
def t__law_mixed (K : PySem.W.Frag) : DS := (sSeq (sAsg (dOp fMod (dFn gInt (dCons (dOp fMul (dOp fAdd (dOp fAdd (dOp fMod (dFn gInt (dCons (dVar 0) dNil)) (dC (.int 2147483647))) (dOp fMul (dC (.int 7919)) (dVar 1))) (dC (.int 1))) (dC (.int 48271))) dNil)) (dC (.int 2147483647))) (gVar 2)) (sSeq (sAsg (dOp fMod (dFn gInt (dCons (dOp fMul (dVar 2) (dOp fAdd (dOp fDiv (dVar 2) (dC (.int 1009))) (dC (.int 69621)))) dNil)) (dC (.int 2147483647))) (gVar 2)) (sRet (dOp fDiv (dOp fMod (dFn gInt (dCons (dOp fMul (dVar 2) (dOp fAdd (dOp fDiv (dVar 2) (dC (.int 2003))) (dC (.int 40692)))) dNil)) (dC (.int 2147483399))) (dC (.int 16))))))
theorem sim__law_mixed : SimS K (t__law_mixed K ) f__law_mixed := by
  unfold t__law_mixed f__law_mixed
  exact (sims_seq (sims_asg (sim_op opv_mod (simv_so (sim_fn olv_int (simvs_cons (simv_so (sim_op opv_mul (simv_so (sim_op opv_add (simv_so (sim_op opv_add (simv_so (sim_op opv_mod (simv_so (sim_fn olv_int (simvs_cons (simv_so sim_var) simvs_nil))) (simv_so sim_c))) (simv_so (sim_op opv_mul (simv_so sim_c) (simv_so sim_var))))) (simv_so sim_c))) (simv_so sim_c))) simvs_nil))) (simv_so sim_c)) simg_var) (sims_seq (sims_asg (sim_op opv_mod (simv_so (sim_fn olv_int (simvs_cons (simv_so (sim_op opv_mul (simv_so sim_var) (simv_so (sim_op opv_add (simv_so (sim_op opv_div (simv_so sim_var) (simv_so sim_c))) (simv_so sim_c))))) simvs_nil))) (simv_so sim_c)) simg_var) (sims_ret (sim_op opv_div (simv_so (sim_op opv_mod (simv_so (sim_fn olv_int (simvs_cons (simv_so (sim_op opv_mul (simv_so sim_var) (simv_so (sim_op opv_add (simv_so (sim_op opv_div (simv_so sim_var) (simv_so sim_c))) (simv_so sim_c))))) simvs_nil))) (simv_so sim_c))) (simv_so sim_c)))))
theorem rdx__law_mixed : ∀ ds M Q E, (fP K 2 F__law_mixed) ds M Q E → (t__law_mixed K ) (endF Q E) (startD ["cell", "turn", "number"] ds) M := by
  unfold F__law_mixed
  exact rd_m (N := ["cell", "turn", "number"]) rfl (sim__law_mixed (K := K))
theorem ok__law_mixed (B : Bs K mg) (Z : DefAt K mg "_law_mixed" s__law_mixed)  : FnX P w K mg base T false (k + 1) "_law_mixed" ["cell", "turn"] (fP K 2 F__law_mixed) := by
  exact fnx_of (k := k) Z sc__law_mixed bn__law_mixed len_f mono_f (t := (t__law_mixed K )) (fun f cdv A outer s H M E hr hg => by
    unfold t__law_mixed
    exact (dss_cons (dsl 2 (de_op dop_mod (dct B.b_int bb_int cl_int (da_cons (de_op dop_mul2 (de_op dop_add (de_op dop_add (de_op dop_mod (dct B.b_int bb_int cl_int (da_cons (dvl 0) da_nil)) de_int) (de_op dop_mul2 de_int (dvl 1))) de_int) de_int) da_nil)) de_int)) (dss_cons (dsl 2 (de_op dop_mod (dct B.b_int bb_int cl_int (da_cons (de_op dop_mul2 (dvl 2) (de_op dop_add (de_op dop_div (dvl 2) de_int) de_int)) da_nil)) de_int)) (dss_one (ds_ret (de_op dop_div (de_op dop_mod (dct B.b_int bb_int cl_int (da_cons (de_op dop_mul2 (dvl 2) (de_op dop_add (de_op dop_div (dvl 2) de_int) de_int)) da_nil)) de_int) de_int)))))) (rdx__law_mixed)
theorem sc__law_draw : FnScope ["hand", "many", "found", "cells", "at", "cell"] ["hand", "many"] (defScope s__law_draw) := ⟨rfl, rfl, rfl, by decide +kernel, rfl, by decide +kernel, by decide +kernel⟩
theorem bn__law_draw : BindN "_law_draw" s__law_draw ["hand", "many"] := fun _ _ _ _ _ _ us hl => match us, hl with | [_, _], _ => rfl
def t__law_draw (K : PySem.W.Frag) (sp__law_mixed : DSp) : DS := (sSeq (sAsg (dOp fAdd (dOp fIx (dVar 0) (dC (.int 3))) (dC (.int 1))) (gSub (dVar 0) (dC (.int 3)))) (sSeq (sIf (tOf (dOp fGtD (dOp fIx (dVar 0) (dC (.int 2))) (dC (.int 0)))) (sSeq (sAsg (dOp fMod (dFn gInt (dCons (dOp fIx (dVar 0) (dC (.int 2))) dNil)) (dVar 1)) (gVar 2)) (sSeq (sAsg (dOp fDiv (dOp fIx (dVar 0) (dC (.int 2))) (dVar 1)) (gSub (dVar 0) (dC (.int 2)))) (sRet (dVar 2)))) sNext) (sSeq (sPar 3 4 (dCons (dOp fIx (dVar 0) (dC (.int 0))) (dCons (dOp fIx (dVar 0) (dC (.int 1))) dNil))) (sSeq (sAsg (dOp fAdd (dVar 4) (dC (.int 1))) (gSub (dVar 0) (dC (.int 1)))) (sSeq (sIf (tOf (dOp fEq (dFn gLen (dCons (dVar 3) dNil)) (dC (.int 0)))) (sRet (dOp fMod (dFn gInt (dCons (dCall sp__law_mixed (dCons (dC (.int 0)) (dCons (dOp fIx (dVar 0) (dC (.int 3))) dNil))) dNil)) (dVar 1))) sNext) (sSeq (sAsg (dOp fIx (dVar 3) (dOp fMod (dFn gInt (dCons (dVar 4) dNil)) (dFn gLen (dCons (dVar 3) dNil)))) (gVar 5)) (sSeq (sIf (tAnd (tOf (dOp fLtD (dVar 4) (dFn gLen (dCons (dVar 3) dNil)))) (tOf (dOp fGeD (dFn gAbs (dCons (dVar 5) dNil)) (dOp fPow (dC (.int 10)) (dC (.int 18)))))) (sSeq (sAsg (dOp fDiv (dFn gAbs (dCons (dVar 5) dNil)) (dVar 1)) (gSub (dVar 0) (dC (.int 2)))) (sRet (dOp fMod (dFn gInt (dCons (dFn gAbs (dCons (dVar 5) dNil)) dNil)) (dVar 1)))) sNext) (sRet (dOp fMod (dFn gInt (dCons (dCall sp__law_mixed (dCons (dVar 5) (dCons (dOp fIx (dVar 0) (dC (.int 3))) dNil))) dNil)) (dVar 1))))))))))
theorem sim__law_draw : SimS K (t__law_draw K (fP K 2 F__law_mixed)) f__law_draw := by
  unfold t__law_draw f__law_draw
  exact (sims_seq (sims_asg (sim_op opv_add (simv_so (sim_op opv_ix simv_sl (simv_so sim_c))) (simv_so sim_c)) (simg_sub (K := K) sim_c)) (sims_seq (sims_if (simt_t (sim_op opv_gtD (simv_so (sim_op opv_ix simv_sl (simv_so sim_c))) (simv_so sim_c))) (sims_seq (sims_asg (sim_op opv_mod (simv_so (sim_fn olv_int (simvs_cons (simv_so (sim_op opv_ix simv_sl (simv_so sim_c))) simvs_nil))) (simv_so sim_var)) simg_var) (sims_seq (sims_asg (sim_op opv_div (simv_so (sim_op opv_ix simv_sl (simv_so sim_c))) (simv_so sim_var)) (simg_sub (K := K) sim_c)) (sims_ret sim_var))) sims_next) (sims_seq (sims_par (sima_cons (sim_op opv_ix simv_sl (simv_so sim_c)) (sima_cons (sim_op opv_ix simv_sl (simv_so sim_c)) sima_nil))) (sims_seq (sims_asg (sim_op opv_add (simv_so sim_var) (simv_so sim_c)) (simg_sub (K := K) sim_c)) (sims_seq (sims_if (simt_t (sim_op opv_eq (simv_so (sim_fn olv_len (simvs_cons (simv_so sim_var) simvs_nil))) (simv_so sim_c))) (sims_ret (sim_op opv_mod (simv_so (sim_fn olv_int (simvs_cons (simv_so (sim_call (sima_cons sim_c (sima_cons (sim_op opv_ix simv_sl (simv_so sim_c)) sima_nil)) (na_cons (na_cons na_nil)))) simvs_nil))) (simv_so sim_var))) sims_next) (sims_seq (sims_asg (sim_op opv_ix (simv_so sim_var) (simv_so (sim_op opv_mod (simv_so (sim_fn olv_int (simvs_cons (simv_so sim_var) simvs_nil))) (simv_so (sim_fn olv_len (simvs_cons (simv_so sim_var) simvs_nil)))))) simg_var) (sims_seq (sims_if (simt_a (simt_t (sim_op opv_ltD (simv_so sim_var) (simv_so (sim_fn olv_len (simvs_cons (simv_so sim_var) simvs_nil))))) (simt_t (sim_op opv_geD (simv_so (sim_fn olv_abs (simvs_cons (simv_so sim_var) simvs_nil))) (simv_so (sim_op opv_pow (simv_so sim_c) (simv_so sim_c)))))) (sims_seq (sims_asg (sim_op opv_div (simv_so (sim_fn olv_abs (simvs_cons (simv_so sim_var) simvs_nil))) (simv_so sim_var)) (simg_sub (K := K) sim_c)) (sims_ret (sim_op opv_mod (simv_so (sim_fn olv_int (simvs_cons (simv_so (sim_fn olv_abs (simvs_cons (simv_so sim_var) simvs_nil))) simvs_nil))) (simv_so sim_var)))) sims_next) (sims_ret (sim_op opv_mod (simv_so (sim_fn olv_int (simvs_cons (simv_so (sim_call (sima_cons sim_var (sima_cons (sim_op opv_ix simv_sl (simv_so sim_c)) sima_nil)) (na_cons (na_cons na_nil)))) simvs_nil))) (simv_so sim_var))))))))))
theorem rdx__law_draw : ∀ ds M Q E, (fP K 2 F__law_draw) ds M Q E → (t__law_draw K (fP K 2 F__law_mixed)) (endF Q E) (startD ["hand", "many", "found", "cells", "at", "cell"] ds) M := by
  unfold F__law_draw
  exact rd_m (N := ["hand", "many", "found", "cells", "at", "cell"]) rfl (sim__law_draw (K := K))
theorem ok__law_draw (B : Bs K mg) (Z : DefAt K mg "_law_draw" s__law_draw) (g__law_mixed : FnX P w K mg base T false k "_law_mixed" ["cell", "turn"] (fP K 2 F__law_mixed)) : FnX P w K mg base T false (k + 1) "_law_draw" ["hand", "many"] (fP K 2 F__law_draw) := by
  have hkk : Nat.ble k k = true := Nat.ble_self_eq_true k
  exact fnx_of (k := k) Z sc__law_draw bn__law_draw len_f mono_f (t := (t__law_draw K (fP K 2 F__law_mixed))) (fun f cdv A outer s H M E hr hg => by
    unfold t__law_draw
    exact (dss_cons (ds_asg (de_op dop_add (de_ix (dvl 0) de_int) de_int) (dg_sub (dvl 0) de_int)) (dss_cons (ds_if (dt_cmp dop_gtD (de_ix (dvl 0) de_int) de_int) (dss_cons (dsl 2 (de_op dop_mod (dct B.b_int bb_int cl_int (da_cons (de_ix (dvl 0) de_int) da_nil)) (dvl 1))) (dss_cons (ds_asg (de_op dop_div (de_ix (dvl 0) de_int) (dvl 1)) (dg_sub (dvl 0) de_int)) (dss_one (ds_ret (dvl 2))))) dss_nil) (dss_cons (ds_par 3 4 (da_cons (de_ix (dvl 0) de_int) (da_cons (de_ix (dvl 0) de_int) da_nil))) (dss_cons (ds_asg (de_op dop_add (dvl 4) de_int) (dg_sub (dvl 0) de_int)) (dss_cons (ds_if (dt_cmp dop_eq (dcb B.b_len bb_len cl_len (da_cons (dvl 3) da_nil)) de_int) (dss_one (ds_ret (de_op dop_mod (dct B.b_int bb_int cl_int (da_cons (dcx g__law_mixed (da_cons de_int (da_cons (de_ix (dvl 0) de_int) da_nil)) hkk) da_nil)) (dvl 1)))) dss_nil) (dss_cons (dsl 5 (de_ix (dvl 3) (de_op dop_mod (dct B.b_int bb_int cl_int (da_cons (dvl 4) da_nil)) (dcb B.b_len bb_len cl_len (da_cons (dvl 3) da_nil))))) (dss_cons (ds_if (dt_and (dt_cmp dop_ltD (dvl 4) (dcb B.b_len bb_len cl_len (da_cons (dvl 3) da_nil))) (dt_and1 (dt_cmp dop_geD (dcb B.b_abs bb_abs cl_abs (da_cons (dvl 5) da_nil)) (de_op dop_pow de_int de_int)))) (dss_cons (ds_asg (de_op dop_div (dcb B.b_abs bb_abs cl_abs (da_cons (dvl 5) da_nil)) (dvl 1)) (dg_sub (dvl 0) de_int)) (dss_one (ds_ret (de_op dop_mod (dct B.b_int bb_int cl_int (da_cons (dcb B.b_abs bb_abs cl_abs (da_cons (dvl 5) da_nil)) da_nil)) (dvl 1))))) dss_nil) (dss_one (ds_ret (de_op dop_mod (dct B.b_int bb_int cl_int (da_cons (dcx g__law_mixed (da_cons (dvl 5) (da_cons (de_ix (dvl 0) de_int) da_nil)) hkk) da_nil)) (dvl 1)))))))))))) (rdx__law_draw)
theorem sc__law_any : FnScope ["hand", "some"] ["hand", "some"] (defScope s__law_any) := ⟨rfl, rfl, rfl, by decide +kernel, rfl, by decide +kernel, by decide +kernel⟩
theorem bn__law_any : BindN "_law_any" s__law_any ["hand", "some"] := fun _ _ _ _ _ _ us hl => match us, hl with | [_, _], _ => rfl
def t__law_any (K : PySem.W.Frag) (sp__law_draw : DSp) : DS := (sRet (dOp fIx (dVar 1) (dCall sp__law_draw (dCons (dVar 0) (dCons (dFn gLen (dCons (dVar 1) dNil)) dNil)))))
theorem sim__law_any : SimS K (t__law_any K (fP K 2 F__law_draw)) f__law_any := by
  unfold t__law_any f__law_any
  exact (sims_ret (sim_op opv_ix (simv_so sim_var) (simv_so (sim_callH (sima_cons (sim_fn olv_len (simvs_cons (simv_so sim_var) simvs_nil)) sima_nil) (na_h (na_cons na_nil))))))
theorem rdx__law_any : ∀ ds M Q E, (fP K 2 F__law_any) ds M Q E → (t__law_any K (fP K 2 F__law_draw)) (endF Q E) (startD ["hand", "some"] ds) M := by
  unfold F__law_any
  exact rd_m (N := ["hand", "some"]) rfl (sim__law_any (K := K))
theorem ok__law_any (B : Bs K mg) (Z : DefAt K mg "_law_any" s__law_any) (g__law_draw : FnX P w K mg base T false k "_law_draw" ["hand", "many"] (fP K 2 F__law_draw)) : FnX P w K mg base T false (k + 1) "_law_any" ["hand", "some"] (fP K 2 F__law_any) := by
  have hkk : Nat.ble k k = true := Nat.ble_self_eq_true k
  exact fnx_of (k := k) Z sc__law_any bn__law_any len_f mono_f (t := (t__law_any K (fP K 2 F__law_draw))) (fun f cdv A outer s H M E hr hg => by
    unfold t__law_any
    exact (dss_one (ds_ret (de_ix (dvl 1) (dcx g__law_draw (da_cons (dvl 0) (da_cons (dcb B.b_len bb_len cl_len (da_cons (dvl 1) da_nil)) da_nil)) hkk))))) (rdx__law_any)
theorem sc__law_asked : FnScope ["hand", "most", "minutes", "many", "bounds", "turn", "i", "j", "low"] ["hand", "most"] (defScope s__law_asked) := ⟨rfl, rfl, rfl, by decide +kernel, rfl, by decide +kernel, by decide +kernel⟩
theorem bn__law_asked : BindN "_law_asked" s__law_asked ["hand", "most"] := fun _ _ _ _ _ _ us hl => match us, hl with | [_, _], _ => rfl
def t__law_asked (K : PySem.W.Frag) (sp__law_draw sp__law_any : DSp) : DS := (sSeq (sPar 2 3 (dCons (dOp fAdd (dC (.int 2)) (dCall sp__law_draw (dCons (dVar 0) (dCons (dVar 1) dNil)))) (dCons (dOp fAdd (dC (.int 1)) (dCall sp__law_draw (dCons (dVar 0) (dCons (dC (.int 4)) dNil)))) dNil))) (sSeq (sAsg (dLstM dNil) (gVar 4)) (sSeq (sFor (iRange1 (dCons (dIf (tOf (dOp fGtD (dVar 3) (dC (.int 1)))) (dCall sp__law_draw (dCons (dVar 0) (dCons (dC (.int 6)) dNil))) (dC (.int 0))) dNil)) (gVar 5) (sSeq (sAsg (dCall sp__law_draw (dCons (dVar 0) (dCons (dVar 3) dNil))) (gVar 6)) (sSeq (sAsg (dOp fMod (dFn gInt (dCons (dOp fAdd (dOp fAdd (dVar 6) (dC (.int 1))) (dCall sp__law_draw (dCons (dVar 0) (dCons (dOp fSub (dVar 3) (dC (.int 1))) dNil)))) dNil)) (dVar 3)) (gVar 7)) (sSeq (sAsg (dCall sp__law_draw (dCons (dVar 0) (dCons (dOp fMul (dC (.int 2)) (dVar 2)) dNil))) (gVar 8)) (sDrop (dMeth tyLst rApp (dVar 4) (dCons (dTup (dCons (dVar 6) (dCons (dVar 7) (dCons (dVar 8) (dCons (dOp fAdd (dVar 8) (dCall sp__law_any (dCons (dVar 0) (dCons (dLst (dCons (dC (.int 0)) (dCons (dC (.int 1)) (dCons (dC (.int 1)) (dCons (dC (.int 2)) (dCons (dVar 2) dNil)))))) dNil)))) dNil))))) dNil))))))) (sRet (dTup (dCons (dVar 2) (dCons (dVar 3) (dCons (dFn gTuple (dCons (dVar 4) dNil)) dNil))))))))
theorem sim__law_asked : SimS K (t__law_asked K (fP K 2 F__law_draw) (fP K 2 F__law_any)) f__law_asked := by
  unfold t__law_asked f__law_asked
  exact (sims_seq (sims_par (sima_cons (sim_op opv_add (simv_so sim_c) (simv_so (sim_callH (sima_cons sim_var sima_nil) (na_h (na_cons na_nil))))) (sima_cons (sim_op opv_add (simv_so sim_c) (simv_so (sim_callH (sima_cons sim_c sima_nil) (na_h (na_cons na_nil))))) sima_nil))) (sims_seq (sims_asgO (simo_lst sima_nil)) (sims_seq (sims_for (simi_range1 (sima_cons (sim_if (simt_t (sim_op opv_gtD (simv_so sim_var) (simv_so sim_c))) (sim_callH (sima_cons sim_c sima_nil) (na_h (na_cons na_nil))) sim_c) sima_nil)) simg_var (sims_seq (sims_asg (sim_callH (sima_cons sim_var sima_nil) (na_h (na_cons na_nil))) simg_var) (sims_seq (sims_asg (sim_op opv_mod (simv_so (sim_fn olv_int (simvs_cons (simv_so (sim_op opv_add (simv_so (sim_op opv_add (simv_so sim_var) (simv_so sim_c))) (simv_so (sim_callH (sima_cons (sim_op opv_sub (simv_so sim_var) (simv_so sim_c)) sima_nil) (na_h (na_cons na_nil)))))) simvs_nil))) (simv_so sim_var)) simg_var) (sims_seq (sims_asg (sim_callH (sima_cons (sim_op opv_mul (simv_so sim_c) (simv_so sim_var)) sima_nil) (na_h (na_cons na_nil))) simg_var) (sims_drop (sim_app (sima_cons (sim_tup (sima_cons sim_var (sima_cons sim_var (sima_cons sim_var (sima_cons (sim_op opv_add (simv_so sim_var) (simv_so (sim_callH (sima_cons (sim_lst (sima_cons sim_c (sima_cons sim_c (sima_cons sim_c (sima_cons sim_c (sima_cons sim_var sima_nil)))))) sima_nil) (na_h (na_cons na_nil))))) sima_nil))))) sima_nil))))))) (sims_ret (sim_tup (sima_cons sim_var (sima_cons sim_var (sima_cons (sim_fn olv_tuple (simvs_cons simv_sl simvs_nil)) sima_nil))))))))
theorem rdx__law_asked : ∀ ds M Q E, (fP K 2 F__law_asked) ds M Q E → (t__law_asked K (fP K 2 F__law_draw) (fP K 2 F__law_any)) (endF Q E) (startD ["hand", "most", "minutes", "many", "bounds", "turn", "i", "j", "low"] ds) M := by
  unfold F__law_asked
  exact rd_m (N := ["hand", "most", "minutes", "many", "bounds", "turn", "i", "j", "low"]) rfl (sim__law_asked (K := K))
theorem ok__law_asked (B : Bs K mg) (Z : DefAt K mg "_law_asked" s__law_asked) (g__law_draw : FnX P w K mg base T false k "_law_draw" ["hand", "many"] (fP K 2 F__law_draw)) (g__law_any : FnX P w K mg base T false k "_law_any" ["hand", "some"] (fP K 2 F__law_any)) : FnX P w K mg base T false (k + 1) "_law_asked" ["hand", "most"] (fP K 2 F__law_asked) := by
  have hkk : Nat.ble k k = true := Nat.ble_self_eq_true k
  exact fnx_of (k := k) Z sc__law_asked bn__law_asked len_f mono_f (t := (t__law_asked K (fP K 2 F__law_draw) (fP K 2 F__law_any))) (fun f cdv A outer s H M E hr hg => by
    unfold t__law_asked
    exact (dss_cons (ds_par 2 3 (da_cons (de_op dop_add de_int (dcx g__law_draw (da_cons (dvl 0) (da_cons (dvl 1) da_nil)) hkk)) (da_cons (de_op dop_add de_int (dcx g__law_draw (da_cons (dvl 0) (da_cons de_int da_nil)) hkk)) da_nil))) (dss_cons (dsl 4 (de_lstM da_nil)) (dss_cons (ds_for rfl (di_range1 rfl B.b_range (da_cons (de_if (dt_cmp dop_gtD (dvl 3) de_int) (dcx g__law_draw (da_cons (dvl 0) (da_cons de_int da_nil)) hkk) de_int) da_nil)) (dgl 5) (dss_cons (dsl 6 (dcx g__law_draw (da_cons (dvl 0) (da_cons (dvl 3) da_nil)) hkk)) (dss_cons (dsl 7 (de_op dop_mod (dct B.b_int bb_int cl_int (da_cons (de_op dop_add (de_op dop_add (dvl 6) de_int) (dcx g__law_draw (da_cons (dvl 0) (da_cons (de_op dop_sub (dvl 3) de_int) da_nil)) hkk)) da_nil)) (dvl 3))) (dss_cons (dsl 8 (dcx g__law_draw (da_cons (dvl 0) (da_cons (de_op dop_mul2 de_int (dvl 2)) da_nil)) hkk)) (dss_one (ds_expr (de_append (dvl 4) (da_cons (de_tup (da_cons (dvl 6) (da_cons (dvl 7) (da_cons (dvl 8) (da_cons (de_op dop_add (dvl 8) (dcx g__law_any (da_cons (dvl 0) (da_cons (de_lst (da_cons de_int (da_cons de_int (da_cons de_int (da_cons de_int (da_cons (dvl 2) da_nil)))))) da_nil)) hkk)) da_nil))))) da_nil)))))))) (dss_one (ds_ret (de_tup (da_cons (dvl 2) (da_cons (dvl 3) (da_cons (dct B.b_tuple bb_tuple cl_tuple (da_cons (dvl 4) da_nil)) da_nil)))))))))) (rdx__law_asked)
theorem sc__law_no_bounds : FnScope ["hand", "many", "some"] ["hand", "many"] (defScope s__law_no_bounds) := ⟨rfl, rfl, rfl, by decide +kernel, rfl, by decide +kernel, by decide +kernel⟩
theorem bn__law_no_bounds : BindN "_law_no_bounds" s__law_no_bounds ["hand", "many"] := fun _ _ _ _ _ _ us hl => match us, hl with | [_, _], _ => rfl
def t__law_no_bounds (K : PySem.W.Frag) (sp__law_any : DSp) : DS := (sSeq (sAsg (dLst (dCons (dC .non) (dCons (dLst dNil) (dCons (dTup (dCons (dTup (dCons (dC (.int 0)) (dCons (dC (.int 0)) (dCons (dC (.int 1)) (dCons (dC (.int 2)) dNil))))) dNil)) (dCons (dTup (dCons (dTup (dCons (dC (.int 0)) (dCons (dVar 1) (dCons (dC (.int 1)) (dCons (dC (.int 2)) dNil))))) dNil)) (dCons (dTup (dCons (dTup (dCons (dC (.int 0)) (dCons (dC (.int 1)) (dCons (dC (.int 2)) (dCons (dC (.int 1)) dNil))))) dNil)) (dCons (dTup (dCons (dTup (dCons (dC (.int 0)) (dCons (dC (.int 1)) (dCons (dC (.int 0)) (dCons (dC (.int 201)) dNil))))) dNil)) (dCons (dTup (dCons (dTup (dCons (dC (.int 0)) (dCons (dC (.int 1)) (dCons (dNeg (dC (.int 1))) (dCons (dC (.int 2)) dNil))))) dNil)) (dCons (dC (.int 0)) dNil))))))))) (gVar 2)) (sRet (dCall sp__law_any (dCons (dVar 0) (dCons (dOp fAdd (dVar 2) (dLst (dCons (dTup (dCons (dTup (dCons (dC (.int 0)) (dCons (dC (.int 1)) (dCons (dC (.int 2)) dNil)))) dNil)) (dCons (dTup (dCons (dLst (dCons (dC (.int 0)) (dCons (dC (.int 1)) (dCons (dC (.int 0)) (dCons (dC (.int 1)) dNil))))) dNil)) (dCons (dTup (dCons (dTup (dCons (dC (.bl true)) (dCons (dC (.int 1)) (dCons (dC (.int 0)) (dCons (dC (.int 1)) dNil))))) dNil)) (dCons (dTup (dCons (dTup (dCons (dC (.int 0)) (dCons (dC (.int 1)) (dCons (dC (.str "0")) (dCons (dC (.int 1)) dNil))))) dNil)) (dCons dEmp dNil))))))) dNil)))))
theorem sim__law_no_bounds : SimS K (t__law_no_bounds K (fP K 2 F__law_any)) f__law_no_bounds := by
  unfold t__law_no_bounds f__law_no_bounds
  exact (sims_seq (sims_asg (sim_lst (sima_cons sim_c (sima_cons (sim_lst sima_nil) (sima_cons (sim_tup (sima_cons (sim_tup (sima_cons sim_c (sima_cons sim_c (sima_cons sim_c (sima_cons sim_c sima_nil))))) sima_nil)) (sima_cons (sim_tup (sima_cons (sim_tup (sima_cons sim_c (sima_cons sim_var (sima_cons sim_c (sima_cons sim_c sima_nil))))) sima_nil)) (sima_cons (sim_tup (sima_cons (sim_tup (sima_cons sim_c (sima_cons sim_c (sima_cons sim_c (sima_cons sim_c sima_nil))))) sima_nil)) (sima_cons (sim_tup (sima_cons (sim_tup (sima_cons sim_c (sima_cons sim_c (sima_cons sim_c (sima_cons sim_c sima_nil))))) sima_nil)) (sima_cons (sim_tup (sima_cons (sim_tup (sima_cons sim_c (sima_cons sim_c (sima_cons (sim_neg sim_c) (sima_cons sim_c sima_nil))))) sima_nil)) (sima_cons sim_c sima_nil))))))))) simg_var) (sims_ret (sim_callH (sima_cons (sim_op opv_add (simv_so sim_var) (simv_so (sim_lst (sima_cons (sim_tup (sima_cons (sim_tup (sima_cons sim_c (sima_cons sim_c (sima_cons sim_c sima_nil)))) sima_nil)) (sima_cons (sim_tup (sima_cons (sim_lst (sima_cons sim_c (sima_cons sim_c (sima_cons sim_c (sima_cons sim_c sima_nil))))) sima_nil)) (sima_cons (sim_tup (sima_cons (sim_tup (sima_cons sim_c (sima_cons sim_c (sima_cons sim_c (sima_cons sim_c sima_nil))))) sima_nil)) (sima_cons (sim_tup (sima_cons (sim_tup (sima_cons sim_c (sima_cons sim_c (sima_cons sim_c (sima_cons sim_c sima_nil))))) sima_nil)) (sima_cons sim_emp sima_nil)))))))) sima_nil) (na_h (na_cons na_nil)))))
theorem rdx__law_no_bounds : ∀ ds M Q E, (fP K 2 F__law_no_bounds) ds M Q E → (t__law_no_bounds K (fP K 2 F__law_any)) (endF Q E) (startD ["hand", "many", "some"] ds) M := by
  unfold F__law_no_bounds
  exact rd_m (N := ["hand", "many", "some"]) rfl (sim__law_no_bounds (K := K))
theorem ok__law_no_bounds (B : Bs K mg) (Z : DefAt K mg "_law_no_bounds" s__law_no_bounds) (g__law_any : FnX P w K mg base T false k "_law_any" ["hand", "some"] (fP K 2 F__law_any)) : FnX P w K mg base T false (k + 1) "_law_no_bounds" ["hand", "many"] (fP K 2 F__law_no_bounds) := by
  have hkk : Nat.ble k k = true := Nat.ble_self_eq_true k
  exact fnx_of (k := k) Z sc__law_no_bounds bn__law_no_bounds len_f mono_f (t := (t__law_no_bounds K (fP K 2 F__law_any))) (fun f cdv A outer s H M E hr hg => by
    unfold t__law_no_bounds
    exact (dss_cons (dsl 2 (de_lst (da_cons de_non (da_cons (de_lst da_nil) (da_cons (de_tup (da_cons (de_tup (da_cons de_int (da_cons de_int (da_cons de_int (da_cons de_int da_nil))))) da_nil)) (da_cons (de_tup (da_cons (de_tup (da_cons de_int (da_cons (dvl 1) (da_cons de_int (da_cons de_int da_nil))))) da_nil)) (da_cons (de_tup (da_cons (de_tup (da_cons de_int (da_cons de_int (da_cons de_int (da_cons de_int da_nil))))) da_nil)) (da_cons (de_tup (da_cons (de_tup (da_cons de_int (da_cons de_int (da_cons de_int (da_cons de_int da_nil))))) da_nil)) (da_cons (de_tup (da_cons (de_tup (da_cons de_int (da_cons de_int (da_cons (de_neg de_int) (da_cons de_int da_nil))))) da_nil)) (da_cons de_int da_nil)))))))))) (dss_one (ds_ret (dcx g__law_any (da_cons (dvl 0) (da_cons (de_op dop_add (dvl 2) (de_lst (da_cons (de_tup (da_cons (de_tup (da_cons de_int (da_cons de_int (da_cons de_int da_nil)))) da_nil)) (da_cons (de_tup (da_cons (de_lst (da_cons de_int (da_cons de_int (da_cons de_int (da_cons de_int da_nil))))) da_nil)) (da_cons (de_tup (da_cons (de_tup (da_cons de_bl (da_cons de_int (da_cons de_int (da_cons de_int da_nil))))) da_nil)) (da_cons (de_tup (da_cons (de_tup (da_cons de_int (da_cons de_int (da_cons de_str (da_cons de_int da_nil))))) da_nil)) (da_cons de_emp da_nil))))))) da_nil)) hkk))))) (rdx__law_no_bounds)
theorem sc__law_no_minutes : FnScope ["hand"] ["hand"] (defScope s__law_no_minutes) := ⟨rfl, rfl, rfl, by decide +kernel, rfl, by decide +kernel, by decide +kernel⟩
theorem bn__law_no_minutes : BindN "_law_no_minutes" s__law_no_minutes ["hand"] := fun _ _ _ _ _ _ us hl => match us, hl with | [_], _ => rfl
def t__law_no_minutes (K : PySem.W.Frag) (sp__law_any : DSp) : DS := (sRet (dCall sp__law_any (dCons (dVar 0) (dCons (dLst (dCons (dC .non) (dCons (dC (.int 1)) (dCons (dC (.int 61)) (dCons (dC (.bl true)) (dCons (dC (.str "10")) (dCons (dTup (dCons (dC (.int 10)) dNil)) (dCons (dNeg (dC (.int 5))) dNil)))))))) dNil))))
theorem sim__law_no_minutes : SimS K (t__law_no_minutes K (fP K 2 F__law_any)) f__law_no_minutes := by
  unfold t__law_no_minutes f__law_no_minutes
  exact (sims_ret (sim_callH (sima_cons (sim_lst (sima_cons sim_c (sima_cons sim_c (sima_cons sim_c (sima_cons sim_c (sima_cons sim_c (sima_cons (sim_tup (sima_cons sim_c sima_nil)) (sima_cons (sim_neg sim_c) sima_nil)))))))) sima_nil) (na_h (na_cons na_nil))))
theorem rdx__law_no_minutes : ∀ ds M Q E, (fP K 1 F__law_no_minutes) ds M Q E → (t__law_no_minutes K (fP K 2 F__law_any)) (endF Q E) (startD ["hand"] ds) M := by
  unfold F__law_no_minutes
  exact rd_m (N := ["hand"]) rfl (sim__law_no_minutes (K := K))
theorem ok__law_no_minutes (B : Bs K mg) (Z : DefAt K mg "_law_no_minutes" s__law_no_minutes) (g__law_any : FnX P w K mg base T false k "_law_any" ["hand", "some"] (fP K 2 F__law_any)) : FnX P w K mg base T false (k + 1) "_law_no_minutes" ["hand"] (fP K 1 F__law_no_minutes) := by
  have hkk : Nat.ble k k = true := Nat.ble_self_eq_true k
  exact fnx_of (k := k) Z sc__law_no_minutes bn__law_no_minutes len_f mono_f (t := (t__law_no_minutes K (fP K 2 F__law_any))) (fun f cdv A outer s H M E hr hg => by
    unfold t__law_no_minutes
    exact (dss_one (ds_ret (dcx g__law_any (da_cons (dvl 0) (da_cons (de_lst (da_cons de_non (da_cons de_int (da_cons de_int (da_cons de_bl (da_cons de_str (da_cons (de_tup (da_cons de_int da_nil)) (da_cons (de_neg de_int) da_nil)))))))) da_nil)) hkk)))) (rdx__law_no_minutes)
theorem sc__law_no_many : FnScope ["hand"] ["hand"] (defScope s__law_no_many) := ⟨rfl, rfl, rfl, by decide +kernel, rfl, by decide +kernel, by decide +kernel⟩
theorem bn__law_no_many : BindN "_law_no_many" s__law_no_many ["hand"] := fun _ _ _ _ _ _ us hl => match us, hl with | [_], _ => rfl
def t__law_no_many (K : PySem.W.Frag) (sp__law_any : DSp) : DS := (sRet (dCall sp__law_any (dCons (dVar 0) (dCons (dLst (dCons (dC .non) (dCons (dC (.int 0)) (dCons (dC (.int 7)) (dCons (dC (.bl true)) (dCons (dC (.str "2")) (dCons (dTup (dCons (dC (.int 2)) dNil)) dNil))))))) dNil))))
theorem sim__law_no_many : SimS K (t__law_no_many K (fP K 2 F__law_any)) f__law_no_many := by
  unfold t__law_no_many f__law_no_many
  exact (sims_ret (sim_callH (sima_cons (sim_lst (sima_cons sim_c (sima_cons sim_c (sima_cons sim_c (sima_cons sim_c (sima_cons sim_c (sima_cons (sim_tup (sima_cons sim_c sima_nil)) sima_nil))))))) sima_nil) (na_h (na_cons na_nil))))
theorem rdx__law_no_many : ∀ ds M Q E, (fP K 1 F__law_no_many) ds M Q E → (t__law_no_many K (fP K 2 F__law_any)) (endF Q E) (startD ["hand"] ds) M := by
  unfold F__law_no_many
  exact rd_m (N := ["hand"]) rfl (sim__law_no_many (K := K))
theorem ok__law_no_many (B : Bs K mg) (Z : DefAt K mg "_law_no_many" s__law_no_many) (g__law_any : FnX P w K mg base T false k "_law_any" ["hand", "some"] (fP K 2 F__law_any)) : FnX P w K mg base T false (k + 1) "_law_no_many" ["hand"] (fP K 1 F__law_no_many) := by
  have hkk : Nat.ble k k = true := Nat.ble_self_eq_true k
  exact fnx_of (k := k) Z sc__law_no_many bn__law_no_many len_f mono_f (t := (t__law_no_many K (fP K 2 F__law_any))) (fun f cdv A outer s H M E hr hg => by
    unfold t__law_no_many
    exact (dss_one (ds_ret (dcx g__law_any (da_cons (dvl 0) (da_cons (de_lst (da_cons de_non (da_cons de_int (da_cons de_int (da_cons de_bl (da_cons de_str (da_cons (de_tup (da_cons de_int da_nil)) da_nil))))))) da_nil)) hkk)))) (rdx__law_no_many)
theorem sc__law_word_of : FnScope ["call", "word"] ["call"] (defScope s__law_word_of) := ⟨rfl, rfl, rfl, by decide +kernel, rfl, by decide +kernel, by decide +kernel⟩
theorem bn__law_word_of : BindN "_law_word_of" s__law_word_of ["call"] := fun _ _ _ _ _ _ us hl => match us, hl with | [_], _ => rfl
theorem gw__law_word_of {C : DC} (B : Bs C.X.K C.X.mg) (hr : Room 2 C.X.A) (g : Addr) (cdv : Value) (q : Str) : GivesS C.X ["call", "word"] "_law_word_of" (defScope s__law_word_of) g cdv (defBody s__law_word_of) "call" q (ttH C.X.K C.T (lamP C.X.K wo__law_word_of wx__law_word_of)) :=
  gives_of (tg := fun f tld => sSeq (sAsg (dC (.str "let")) (gVar 1)) (sSeq (sTry C.X.K (sDrop (dAct f tld)) [(cl C.X.K "NoMinutes", sAsg (dC (.str "minutes")) (gVar 1)), (cl C.X.K "NoEvents", sAsg (dC (.str "events")) (gVar 1)), (cl C.X.K "NoBounds", sAsg (dC (.str "bounds")) (gVar 1)), (cl C.X.K "NoEvent", sAsg (dC (.str "event")) (gVar 1)), (cl C.X.K "TrackError", sAsg (dC (.str "other")) (gVar 1))]) (sRet (dVar 1)))) hr sc__law_word_of.nd (fun f s H M c' tld mt act => dss_cons (dsl 1 de_str) (dss_cons (ds_try (fun H1 M1 Wd W pn xe tk po hW => dss_one (ds_expr (act H1 M1 Wd W pn xe tk po hW _ _))) (DHds.cons (names_of B.x_NoMinutes) (fun _ _ _ _ => dss_one (dsl 1 de_str)) (DHds.cons (names_of B.x_NoEvents) (fun _ _ _ _ => dss_one (dsl 1 de_str)) (DHds.cons (names_of B.x_NoBounds) (fun _ _ _ _ => dss_one (dsl 1 de_str)) (DHds.cons (names_of B.x_NoEvent) (fun _ _ _ _ => dss_one (dsl 1 de_str)) (DHds.cons (names_of B.x_TrackError) (fun _ _ _ _ => dss_one (dsl 1 de_str)) DHds.nil)))))) (dss_one (ds_ret (dvl 1))))) (fun f tld M Q mt h => word_rd mt B.w__law_word_of h)
theorem sc_round_told : FnScope ["minutes", "many", "bounds"] ["minutes", "many", "bounds"] (defScope s_round_told) := ⟨rfl, rfl, rfl, by decide +kernel, rfl, by decide +kernel, by decide +kernel⟩
theorem bn_round_told : BindN "round_told" s_round_told ["minutes", "many", "bounds"] := fun _ _ _ _ _ _ us hl => match us, hl with | [_, _, _], _ => rfl
def t_round_told (K : PySem.W.Frag) (sp_check_timetable sp_raw_told : DSp) : DS := (sSeq (sDrop (dCall sp_check_timetable (dCons (dVar 0) (dCons (dVar 1) (dCons (dVar 2) dNil))))) (sRet (dCall sp_raw_told (dCons (dVar 0) (dCons (dVar 1) (dCons (dVar 2) dNil))))))
theorem sim_round_told : SimS K (t_round_told K (fP K 3 F_check_timetable) (fP K 3 F_raw_told)) f_round_told := by
  unfold t_round_told f_round_told
  exact (sims_seq (sims_drop (sim_call (sima_cons sim_var (sima_cons sim_var (sima_cons sim_var sima_nil))) (na_cons (na_cons (na_cons na_nil))))) (sims_ret (sim_call (sima_cons sim_var (sima_cons sim_var (sima_cons sim_var sima_nil))) (na_cons (na_cons (na_cons na_nil))))))
theorem rdx_round_told : ∀ ds M Q E, (fP K 3 F_round_told) ds M Q E → (t_round_told K (fP K 3 F_check_timetable) (fP K 3 F_raw_told)) (endF Q E) (startD ["minutes", "many", "bounds"] ds) M := by
  unfold F_round_told
  exact rd_m (N := ["minutes", "many", "bounds"]) rfl (sim_round_told (K := K))
theorem ok_round_told (B : Bs K mg) (Z : DefAt K mg "round_told" s_round_told) (g_check_timetable : FnX P w K mg base T false k "check_timetable" ["minutes", "many", "bounds"] (fP K 3 F_check_timetable)) (g_raw_told : FnX P w K mg base T false k "raw_told" ["minutes", "many", "bounds"] (fP K 3 F_raw_told)) : FnX P w K mg base T false (k + 1) "round_told" ["minutes", "many", "bounds"] (fP K 3 F_round_told) := by
  have hkk : Nat.ble k k = true := Nat.ble_self_eq_true k
  exact fnx_of (k := k) Z sc_round_told bn_round_told len_f mono_f (t := (t_round_told K (fP K 3 F_check_timetable) (fP K 3 F_raw_told))) (fun f cdv A outer s H M E hr hg => by
    unfold t_round_told
    exact (dss_cons (ds_expr (dcx g_check_timetable (da_cons (dvl 0) (da_cons (dvl 1) (da_cons (dvl 2) da_nil))) hkk)) (dss_one (ds_ret (dcx g_raw_told (da_cons (dvl 0) (da_cons (dvl 1) (da_cons (dvl 2) da_nil))) hkk))))) (rdx_round_told)
theorem sc__law_keeps : FnScope ["minutes", "bound", "times", "i", "j", "low", "high", "turn"] ["minutes", "bound", "times"] (defScope s__law_keeps) := ⟨rfl, rfl, rfl, by decide +kernel, rfl, by decide +kernel, by decide +kernel⟩
theorem bn__law_keeps : BindN "_law_keeps" s__law_keeps ["minutes", "bound", "times"] := fun _ _ _ _ _ _ us hl => match us, hl with | [_, _, _], _ => rfl
def t__law_keeps (K : PySem.W.Frag) : DS := (sSeq (sAsg (dVar 1) (gTup 4 (gCons (gVar 3) (gCons (gVar 4) (gCons (gVar 5) (gCons (gVar 6) gNil)))))) (sRet (dFn gAny (dCons (dComp (iRange2 (dCons (dNeg (dC (.int 1))) (dCons (dOp fAdd (dOp fDiv (dVar 6) (dVar 0)) (dC (.int 2))) dNil))) (gVar 7) tYesD (dChain fLeD fLeD (dVar 5) (dOp fAdd (dOp fSub (dOp fIx (dVar 2) (dVar 4)) (dOp fIx (dVar 2) (dVar 3))) (dOp fMul (dVar 7) (dVar 0))) (dVar 6)) [7]) dNil))))
theorem sim__law_keeps : SimS K (t__law_keeps K ) f__law_keeps := by
  unfold t__law_keeps f__law_keeps
  exact (sims_seq (sims_asg sim_var (simg_tup (simg_cons simg_var (simg_cons simg_var (simg_cons simg_var (simg_cons simg_var simg_nil)))))) (sims_ret (sim_fn olv_any (simvs_cons (simv_so (sim_comp (simi_range2 (sima_cons (sim_neg sim_c) (sima_cons (sim_op opv_add (simv_so (sim_op opv_div (simv_so sim_var) (simv_so sim_var))) (simv_so sim_c)) sima_nil))) simw_var simt_y (sim_chain opv_leD opv_leD (simv_so sim_var) (simv_so (sim_op opv_add (simv_so (sim_op opv_sub (simv_so (sim_op opv_ix (simv_so sim_var) (simv_so sim_var))) (simv_so (sim_op opv_ix (simv_so sim_var) (simv_so sim_var))))) (simv_so (sim_op opv_mul (simv_so sim_var) (simv_so sim_var))))) (simv_so sim_var)))) simvs_nil))))
theorem rdx__law_keeps : ∀ ds M Q E, (fP K 3 F__law_keeps) ds M Q E → (t__law_keeps K ) (endF Q E) (startD ["minutes", "bound", "times", "i", "j", "low", "high", "turn"] ds) M := by
  unfold F__law_keeps
  exact rd_m (N := ["minutes", "bound", "times", "i", "j", "low", "high", "turn"]) rfl (sim__law_keeps (K := K))
theorem ok__law_keeps (B : Bs K mg) (Z : DefAt K mg "_law_keeps" s__law_keeps)  : FnX P w K mg base T false (k + 1) "_law_keeps" ["minutes", "bound", "times"] (fP K 3 F__law_keeps) := by
  exact fnx_of (k := k) Z sc__law_keeps bn__law_keeps len_f mono_f (t := (t__law_keeps K )) (fun f cdv A outer s H M E hr hg => by
    unfold t__law_keeps
    exact (dss_cons (ds_asg (dvl 1) (dg_tup rfl (dgs_cons (dgc 3) (dgs_cons (dgc 4) (dgs_cons (dgc 5) (dgs_cons (dgc 6) dgs_nil)))))) (dss_one (ds_ret (dcb B.b_any bb_any (cl_any rfl) (da_cons (de_comp (own := [("turn", 7)]) rfl (di_range2 rfl B.b_range (da_cons (de_neg de_int) (da_cons (de_op dop_add (de_op dop_div (dvc 6) (dvc 0)) de_int) da_nil))) (blkOk_by (by kernel_rfl)) (fun _ _ _ _ _ => (dwl 7)) (fun _ _ _ _ _ => dts_nil) (fun _ _ _ _ _ => (de_chain dop_leD dop_leD (dvc 5) (de_op dop_add (de_op dop_sub (de_ix (dvc 2) (dvc 4)) (de_ix (dvc 2) (dvc 3))) (de_op dop_mul2 (dvl 7) (dvc 0))) (dvc 6)))) da_nil)))))) (rdx__law_keeps)
theorem sc__law_all_times : FnScope ["minutes", "many", "found", "event", "longer", "row", "time"] ["minutes", "many"] (defScope s__law_all_times) := ⟨rfl, rfl, rfl, by decide +kernel, rfl, by decide +kernel, by decide +kernel⟩
theorem bn__law_all_times : BindN "_law_all_times" s__law_all_times ["minutes", "many"] := fun _ _ _ _ _ _ us hl => match us, hl with | [_, _], _ => rfl
def t__law_all_times (K : PySem.W.Frag) : DS := (sSeq (sAsg (dLst (dCons (dTup (dCons (dC (.int 0)) dNil)) dNil)) (gVar 2)) (sSeq (sFor (iRange1 (dCons (dOp fSub (dVar 1) (dC (.int 1))) dNil)) (gVar 3) (sSeq (sAsg (dLstM dNil) (gVar 4)) (sSeq (sFor (iSeq (dVar 2)) (gVar 5) (sDrop (dMeth tyLst rExt (dVar 4) (dCons (dComp (iRange1 (dCons (dVar 0) dNil)) (gVar 6) tYesD (dOp fAdd (dVar 5) (dTup (dCons (dVar 6) dNil))) [6]) dNil)))) (sFrz 4 (sAsg (dVar 4) (gVar 2)))))) (sRet (dVar 2))))
theorem sim__law_all_times : SimS K (t__law_all_times K ) f__law_all_times := by
  unfold t__law_all_times f__law_all_times
  exact (sims_seq (sims_asg (sim_lst (sima_cons (sim_tup (sima_cons sim_c sima_nil)) sima_nil)) simg_var) (sims_seq (sims_for (simi_range1 (sima_cons (sim_op opv_sub (simv_so sim_var) (simv_so sim_c)) sima_nil)) simg_var (sims_seq (sims_asgO (simo_lst sima_nil)) (sims_seq (sims_for (simi_seq (simv_so sim_var)) simg_var (sims_drop (sim_ext (simvs_cons (simv_so (sim_comp (simi_range1 (sima_cons sim_var sima_nil)) simw_var simt_y (sim_op opv_add (simv_so sim_var) (simv_so (sim_tup (sima_cons sim_var sima_nil)))))) simvs_nil)))) (sims_frz 4 (sims_asg sim_var simg_var))))) (sims_ret sim_var)))
theorem rdx__law_all_times : ∀ ds M Q E, (fP K 2 F__law_all_times) ds M Q E → (t__law_all_times K ) (endF Q E) (startD ["minutes", "many", "found", "event", "longer", "row", "time"] ds) M := by
  unfold F__law_all_times
  exact rd_m (N := ["minutes", "many", "found", "event", "longer", "row", "time"]) rfl (sim__law_all_times (K := K))
theorem ok__law_all_times (B : Bs K mg) (Z : DefAt K mg "_law_all_times" s__law_all_times)  : FnX P w K mg base T false (k + 1) "_law_all_times" ["minutes", "many"] (fP K 2 F__law_all_times) := by
  exact fnx_of (k := k) Z sc__law_all_times bn__law_all_times len_f mono_f (t := (t__law_all_times K )) (fun f cdv A outer s H M E hr hg => by
    unfold t__law_all_times
    exact (dss_cons (dsl 2 (de_lst (da_cons (de_tup (da_cons de_int da_nil)) da_nil))) (dss_cons (ds_for rfl (di_range1 rfl B.b_range (da_cons (de_op dop_sub (dvl 1) de_int) da_nil)) (dgl 3) (dss_cons (dsl 4 (de_lstM da_nil)) (dss_cons (ds_for rfl (di_seq (dvl 2)) (dgc 5) (dss_one (ds_expr (de_extend (dvl 4) (da_cons (de_comp (own := [("time", 6)]) rfl (di_range1 rfl B.b_range (da_cons (dvl 0) da_nil)) (blkOk_by (by kernel_rfl)) (fun _ _ _ _ _ => (dwl 6)) (fun _ _ _ _ _ => dts_nil) (fun _ _ _ _ _ => (de_op dop_add (dvc 5) (de_tup (da_cons (dvl 6) da_nil))))) da_nil))))) (dss_frz 4 (dss_one (dsl 2 (dvl 4))))))) (dss_one (ds_ret (dvl 2)))))) (rdx__law_all_times)
theorem sc__law_kept : FnScope ["minutes", "many", "bounds", "some", "times", "bound"] ["minutes", "many", "bounds"] (defScope s__law_kept) := ⟨rfl, rfl, rfl, by decide +kernel, rfl, by decide +kernel, by decide +kernel⟩
theorem bn__law_kept : BindN "_law_kept" s__law_kept ["minutes", "many", "bounds"] := fun _ _ _ _ _ _ us hl => match us, hl with | [_, _, _], _ => rfl
def t__law_kept (K : PySem.W.Frag) (sp__law_keeps sp__law_all_times : DSp) : DS := (sSeq (sAsg (dCall sp__law_all_times (dCons (dVar 0) (dCons (dVar 1) dNil))) (gVar 3)) (sRet (dComp (iSeq (dVar 3)) (gVar 4) (tOf (dFn gAll (dCons (dComp (iSeq (dVar 2)) (gVar 5) tYesD (dCall sp__law_keeps (dCons (dVar 0) (dCons (dVar 5) (dCons (dVar 4) dNil)))) [5]) dNil))) (dVar 4) [4])))
theorem sim__law_kept : SimS K (t__law_kept K (fP K 3 F__law_keeps) (fP K 2 F__law_all_times)) f__law_kept := by
  unfold t__law_kept f__law_kept
  exact (sims_seq (sims_asg (sim_call (sima_cons sim_var (sima_cons sim_var sima_nil)) (na_cons (na_cons na_nil))) simg_var) (sims_ret (sim_comp (simi_seq (simv_so sim_var)) simw_var (simt_t (sim_fn olv_all (simvs_cons (simv_so (sim_comp (simi_seq (simv_so sim_var)) simw_var simt_y (sim_call (sima_cons sim_var (sima_cons sim_var (sima_cons sim_var sima_nil))) (na_cons (na_cons (na_cons na_nil)))))) simvs_nil))) sim_var)))
theorem rdx__law_kept : ∀ ds M Q E, (fP K 3 F__law_kept) ds M Q E → (t__law_kept K (fP K 3 F__law_keeps) (fP K 2 F__law_all_times)) (endF Q E) (startD ["minutes", "many", "bounds", "some", "times", "bound"] ds) M := by
  unfold F__law_kept
  exact rd_m (N := ["minutes", "many", "bounds", "some", "times", "bound"]) rfl (sim__law_kept (K := K))
theorem ok__law_kept (B : Bs K mg) (Z : DefAt K mg "_law_kept" s__law_kept) (g__law_keeps : FnX P w K mg base T false k "_law_keeps" ["minutes", "bound", "times"] (fP K 3 F__law_keeps)) (g__law_all_times : FnX P w K mg base T false k "_law_all_times" ["minutes", "many"] (fP K 2 F__law_all_times)) : FnX P w K mg base T false (k + 1) "_law_kept" ["minutes", "many", "bounds"] (fP K 3 F__law_kept) := by
  have hkk : Nat.ble k k = true := Nat.ble_self_eq_true k
  exact fnx_of (k := k) Z sc__law_kept bn__law_kept len_f mono_f (t := (t__law_kept K (fP K 3 F__law_keeps) (fP K 2 F__law_all_times))) (fun f cdv A outer s H M E hr hg => by
    unfold t__law_kept
    exact (dss_cons (dsl 3 (dcx g__law_all_times (da_cons (dvc 0) (da_cons (dvl 1) da_nil)) hkk)) (dss_one (ds_ret (de_comp (own := [("times", 4)]) rfl (di_seq (dvl 3)) (blkOk_by (by kernel_rfl)) (fun _ _ _ _ _ => (dwc 4)) (fun _ _ _ _ _ => (dts_one (dt_val (dcb B.b_all bb_all (cl_all rfl) (da_cons (de_comp (own := [("bound", 5)]) rfl (di_seq (dvc 2)) (blkOk_by (by kernel_rfl)) (fun _ _ _ _ _ => (dwl 5)) (fun _ _ _ _ _ => dts_nil) (fun _ _ _ _ _ => (dcx g__law_keeps (da_cons (dvc 0) (da_cons (dvl 5) (da_cons (dvc 4) da_nil))) hkk))) da_nil))))) (fun _ _ _ _ _ => (dvc 4))))))) (rdx__law_kept)
theorem sc__law_least : FnScope ["many", "bounds", "minutes"] ["many", "bounds"] (defScope s__law_least) := ⟨rfl, rfl, rfl, by decide +kernel, rfl, by decide +kernel, by decide +kernel⟩
theorem bn__law_least : BindN "_law_least" s__law_least ["many", "bounds"] := fun _ _ _ _ _ _ us hl => match us, hl with | [_, _], _ => rfl
def t__law_least (K : PySem.W.Frag) (sp__law_kept : DSp) : DS := (sSeq (sFor (iRange2 (dCons (dC (.int 2)) (dCons (dC (.int 13)) dNil))) (gVar 2) (sIf (tOf (dOp fGtD (dFn gLen (dCons (dCall sp__law_kept (dCons (dVar 2) (dCons (dVar 0) (dCons (dVar 1) dNil)))) dNil)) (dC (.int 0)))) (sRet (dVar 2)) sNext)) (sRet (dC .non)))
theorem sim__law_least : SimS K (t__law_least K (fP K 3 F__law_kept)) f__law_least := by
  unfold t__law_least f__law_least
  exact (sims_seq (sims_for (simi_range2 (sima_cons sim_c (sima_cons sim_c sima_nil))) simg_var (sims_if (simt_t (sim_op opv_gtD (simv_so (sim_fn olv_len (simvs_cons (simv_so (sim_call (sima_cons sim_var (sima_cons sim_var (sima_cons sim_var sima_nil))) (na_cons (na_cons (na_cons na_nil))))) simvs_nil))) (simv_so sim_c))) (sims_ret sim_var) sims_next)) (sims_ret sim_c))
theorem rdx__law_least : ∀ ds M Q E, (fP K 2 F__law_least) ds M Q E → (t__law_least K (fP K 3 F__law_kept)) (endF Q E) (startD ["many", "bounds", "minutes"] ds) M := by
  unfold F__law_least
  exact rd_m (N := ["many", "bounds", "minutes"]) rfl (sim__law_least (K := K))
theorem ok__law_least (B : Bs K mg) (Z : DefAt K mg "_law_least" s__law_least) (g__law_kept : FnX P w K mg base T false k "_law_kept" ["minutes", "many", "bounds"] (fP K 3 F__law_kept)) : FnX P w K mg base T false (k + 1) "_law_least" ["many", "bounds"] (fP K 2 F__law_least) := by
  have hkk : Nat.ble k k = true := Nat.ble_self_eq_true k
  exact fnx_of (k := k) Z sc__law_least bn__law_least len_f mono_f (t := (t__law_least K (fP K 3 F__law_kept))) (fun f cdv A outer s H M E hr hg => by
    unfold t__law_least
    exact (dss_cons (ds_for rfl (di_range2 rfl B.b_range (da_cons de_int (da_cons de_int da_nil))) (dgl 2) (dss_one (ds_if (dt_cmp dop_gtD (dcb B.b_len bb_len cl_len (da_cons (dcx g__law_kept (da_cons (dvl 2) (da_cons (dvl 0) (da_cons (dvl 1) da_nil))) hkk) da_nil)) de_int) (dss_one (ds_ret (dvl 2))) dss_nil))) (dss_one (ds_ret de_non)))) (rdx__law_least)
theorem sc__law_is_right : FnScope ["hand", "minutes", "many", "bounds", "kept", "event", "due", "needed", "number", "rest", "least", "times"] ["hand", "minutes", "many", "bounds"] (defScope s__law_is_right) := ⟨rfl, rfl, rfl, by decide +kernel, rfl, by decide +kernel, by decide +kernel⟩
theorem bn__law_is_right : BindN "_law_is_right" s__law_is_right ["hand", "minutes", "many", "bounds"] := fun _ _ _ _ _ _ us hl => match us, hl with | [_, _, _, _], _ => rfl
def t__law_is_right (K : PySem.W.Frag) (sp_round_told sp_windows sp_least_minutes sp_needed_bounds sp__law_kept sp__law_least : DSp) : DS := (sSeq (sAsg (dCall sp__law_kept (dCons (dVar 1) (dCons (dVar 2) (dCons (dVar 3) dNil)))) (gVar 4)) (sSeq (sFor (iRange1 (dCons (dVar 2) dNil)) (gVar 5) (sSeq (sAsg (dFn gTuple (dCons (dFn gSortSet (dCons (dComp (iSeq (dVar 4)) (gVar 11) tYesD (dOp fIx (dVar 11) (dVar 5)) [11]) dNil)) dNil)) (gVar 6)) (sIf (tOf (dOp fNe (dCall sp_windows (dCons (dVar 1) (dCons (dVar 2) (dCons (dVar 3) (dCons (dVar 5) dNil))))) (dVar 6))) (sRet (dC (.bl false))) sNext))) (sSeq (sAsg (dLstM dNil) (gVar 7)) (sSeq (sFor (iRange1 (dCons (dFn gLen (dCons (dVar 3) dNil)) dNil)) (gVar 8) (sSeq (sAsg (dOp fAdd (dPart (dVar 3) oNone (oSome (dVar 8))) (dPart (dVar 3) (oSome (dOp fAdd (dVar 8) (dC (.int 1)))) oNone)) (gVar 9)) (sIf (tAnd (tOf (dOp fEq (dFn gLen (dCons (dVar 4) dNil)) (dC (.int 0)))) (tOf (dOp fGtD (dFn gLen (dCons (dCall sp__law_kept (dCons (dVar 1) (dCons (dVar 2) (dCons (dVar 9) dNil)))) dNil)) (dC (.int 0))))) (sDrop (dMeth tyLst rApp (dVar 7) (dCons (dVar 8) dNil))) sNext))) (sSeq (sIf (tOf (dOp fNe (dCall sp_needed_bounds (dCons (dVar 1) (dCons (dVar 2) (dCons (dVar 3) dNil)))) (dFn gTuple (dCons (dVar 7) dNil)))) (sRet (dC (.bl false))) sNext) (sSeq (sAsg (dCall sp__law_least (dCons (dVar 2) (dCons (dVar 3) dNil))) (gVar 10)) (sSeq (sIf (tOf (dOp fIs (dVar 10) (dC .non))) (sRet (dC (.bl true))) sNext) (sRet (dAnd (dOp fEq (dCall sp_least_minutes (dCons (dVar 2) (dCons (dVar 3) dNil))) (dVar 10)) (dOp fEq (dOp fIx (dCall sp_round_told (dCons (dVar 10) (dCons (dVar 2) (dCons (dVar 3) dNil)))) (dC (.int 0))) (dC (.str "times"))))))))))))
theorem sim__law_is_right : SimS K (t__law_is_right K (fP K 3 F_round_told) (fP K 4 F_windows) (fP K 2 F_least_minutes) (fP K 3 F_needed_bounds) (fP K 3 F__law_kept) (fP K 2 F__law_least)) f__law_is_right := by
  unfold t__law_is_right f__law_is_right
  exact (sims_seq (sims_asg (sim_call (sima_cons sim_var (sima_cons sim_var (sima_cons sim_var sima_nil))) (na_cons (na_cons (na_cons na_nil)))) simg_var) (sims_seq (sims_for (simi_range1 (sima_cons sim_var sima_nil)) simg_var (sims_seq (sims_asg (sim_fn olv_tuple (simvs_cons (simv_so (sim_fn olv_sortset (simvs_cons (simv_so (sim_comp (simi_seq (simv_so sim_var)) simw_var simt_y (sim_op opv_ix (simv_so sim_var) (simv_so sim_var)))) simvs_nil))) simvs_nil)) simg_var) (sims_if (simt_t (sim_op opv_ne (simv_so (sim_call (sima_cons sim_var (sima_cons sim_var (sima_cons sim_var (sima_cons sim_var sima_nil)))) (na_cons (na_cons (na_cons (na_cons na_nil)))))) (simv_so sim_var))) (sims_ret sim_c) sims_next))) (sims_seq (sims_asgO (simo_lst sima_nil)) (sims_seq (sims_for (simi_range1 (sima_cons (sim_fn olv_len (simvs_cons (simv_so sim_var) simvs_nil)) sima_nil)) simg_var (sims_seq (sims_asg (sim_op opv_add (simv_so (sim_part (simv_so sim_var) sim_pnone (sim_psome sim_var))) (simv_so (sim_part (simv_so sim_var) (sim_psome (sim_op opv_add (simv_so sim_var) (simv_so sim_c))) sim_pnone))) simg_var) (sims_if (simt_a (simt_t (sim_op opv_eq (simv_so (sim_fn olv_len (simvs_cons (simv_so sim_var) simvs_nil))) (simv_so sim_c))) (simt_t (sim_op opv_gtD (simv_so (sim_fn olv_len (simvs_cons (simv_so (sim_call (sima_cons sim_var (sima_cons sim_var (sima_cons sim_var sima_nil))) (na_cons (na_cons (na_cons na_nil))))) simvs_nil))) (simv_so sim_c)))) (sims_drop (sim_app (sima_cons sim_var sima_nil))) sims_next))) (sims_seq (sims_if (simt_t (sim_op opv_ne (simv_so (sim_call (sima_cons sim_var (sima_cons sim_var (sima_cons sim_var sima_nil))) (na_cons (na_cons (na_cons na_nil))))) (simv_so (sim_fn olv_tuple (simvs_cons simv_sl simvs_nil))))) (sims_ret sim_c) sims_next) (sims_seq (sims_asg (sim_call (sima_cons sim_var (sima_cons sim_var sima_nil)) (na_cons (na_cons na_nil))) simg_var) (sims_seq (sims_if (simt_t (sim_op opv_is (simv_so sim_var) (simv_so sim_c))) (sims_ret sim_c) sims_next) (sims_ret (sim_and (sim_op opv_eq (simv_so (sim_call (sima_cons sim_var (sima_cons sim_var sima_nil)) (na_cons (na_cons na_nil)))) (simv_so sim_var)) (sim_op opv_eq (simv_so (sim_op opv_ix (simv_so (sim_call (sima_cons sim_var (sima_cons sim_var (sima_cons sim_var sima_nil))) (na_cons (na_cons (na_cons na_nil))))) (simv_so sim_c))) (simv_so sim_c)))))))))))
theorem rdx__law_is_right : ∀ ds M Q E, (fP K 4 F__law_is_right) ds M Q E → (t__law_is_right K (fP K 3 F_round_told) (fP K 4 F_windows) (fP K 2 F_least_minutes) (fP K 3 F_needed_bounds) (fP K 3 F__law_kept) (fP K 2 F__law_least)) (endF Q E) (startD ["hand", "minutes", "many", "bounds", "kept", "event", "due", "needed", "number", "rest", "least", "times"] ds) M := by
  unfold F__law_is_right
  exact rd_m (N := ["hand", "minutes", "many", "bounds", "kept", "event", "due", "needed", "number", "rest", "least", "times"]) rfl (sim__law_is_right (K := K))
theorem ok__law_is_right (B : Bs K mg) (Z : DefAt K mg "_law_is_right" s__law_is_right) (g_round_told : FnX P w K mg base T false k "round_told" ["minutes", "many", "bounds"] (fP K 3 F_round_told)) (g_windows : FnX P w K mg base T false k "windows" ["minutes", "many", "bounds", "event"] (fP K 4 F_windows)) (g_least_minutes : FnX P w K mg base T false k "least_minutes" ["many", "bounds"] (fP K 2 F_least_minutes)) (g_needed_bounds : FnX P w K mg base T false k "needed_bounds" ["minutes", "many", "bounds"] (fP K 3 F_needed_bounds)) (g__law_kept : FnX P w K mg base T false k "_law_kept" ["minutes", "many", "bounds"] (fP K 3 F__law_kept)) (g__law_least : FnX P w K mg base T false k "_law_least" ["many", "bounds"] (fP K 2 F__law_least)) : FnX P w K mg base T false (k + 1) "_law_is_right" ["hand", "minutes", "many", "bounds"] (fP K 4 F__law_is_right) := by
  have hkk : Nat.ble k k = true := Nat.ble_self_eq_true k
  exact fnx_of (k := k) Z sc__law_is_right bn__law_is_right len_f mono_f (t := (t__law_is_right K (fP K 3 F_round_told) (fP K 4 F_windows) (fP K 2 F_least_minutes) (fP K 3 F_needed_bounds) (fP K 3 F__law_kept) (fP K 2 F__law_least))) (fun f cdv A outer s H M E hr hg => by
    unfold t__law_is_right
    exact (dss_cons (dsl 4 (dcx g__law_kept (da_cons (dvl 1) (da_cons (dvl 2) (da_cons (dvl 3) da_nil))) hkk)) (dss_cons (ds_for rfl (di_range1 rfl B.b_range (da_cons (dvl 2) da_nil)) (dgc 5) (dss_cons (dsl 6 (dct B.b_tuple bb_tuple cl_tuple (da_cons (de_sortset rfl rfl B.b_sorted rfl B.b_set (de_comp (own := [("times", 11)]) rfl (di_seq (dvl 4)) (blkOk_by (by kernel_rfl)) (fun _ _ _ _ _ => (dwl 11)) (fun _ _ _ _ _ => dts_nil) (fun _ _ _ _ _ => (de_ix (dvl 11) (dvc 5))))) da_nil))) (dss_one (ds_if (dt_cmp dop_ne (dcx g_windows (da_cons (dvl 1) (da_cons (dvl 2) (da_cons (dvl 3) (da_cons (dvc 5) da_nil)))) hkk) (dvl 6)) (dss_one (ds_ret de_bl)) dss_nil)))) (dss_cons (dsl 7 (de_lstM da_nil)) (dss_cons (ds_for rfl (di_range1 rfl B.b_range (da_cons (dcb B.b_len bb_len cl_len (da_cons (dvl 3) da_nil)) da_nil)) (dgl 8) (dss_cons (dsl 9 (de_op dop_add (de_part (dvl 3) do_none (do_some (dvl 8))) (de_part (dvl 3) (do_some (de_op dop_add (dvl 8) de_int)) do_none))) (dss_one (ds_if (dt_and (dt_cmp dop_eq (dcb B.b_len bb_len cl_len (da_cons (dvl 4) da_nil)) de_int) (dt_and1 (dt_cmp dop_gtD (dcb B.b_len bb_len cl_len (da_cons (dcx g__law_kept (da_cons (dvl 1) (da_cons (dvl 2) (da_cons (dvl 9) da_nil))) hkk) da_nil)) de_int))) (dss_one (ds_expr (de_append (dvl 7) (da_cons (dvl 8) da_nil)))) dss_nil)))) (dss_cons (ds_if (dt_cmp dop_ne (dcx g_needed_bounds (da_cons (dvl 1) (da_cons (dvl 2) (da_cons (dvl 3) da_nil))) hkk) (dct B.b_tuple bb_tuple cl_tuple (da_cons (dvl 7) da_nil))) (dss_one (ds_ret de_bl)) dss_nil) (dss_cons (dsl 10 (dcx g__law_least (da_cons (dvl 2) (da_cons (dvl 3) da_nil)) hkk)) (dss_cons (ds_if (dt_cmp dop_is (dvl 10) de_non) (dss_one (ds_ret de_bl)) dss_nil) (dss_one (ds_ret (de_and (de_cmp dop_eq (dcx g_least_minutes (da_cons (dvl 2) (da_cons (dvl 3) da_nil)) hkk) (dvl 10)) (de_one (de_cmp dop_eq (de_ix (dcx g_round_told (da_cons (dvl 10) (da_cons (dvl 2) (da_cons (dvl 3) da_nil))) hkk) de_int) de_str))))))))))))) (rdx__law_is_right)
theorem sc_law : FnScope ["script", "hand", "turn", "minutes", "many", "bounds", "none", "odd", "bad", "event", "words", "one"] ["script"] (defScope s_law) := ⟨rfl, rfl, rfl, by decide +kernel, rfl, by decide +kernel, by decide +kernel⟩
theorem bn_law : BindN "law" s_law ["script"] := fun _ _ _ _ _ _ us hl => match us, hl with | [_], _ => rfl
def t_law (K : PySem.W.Frag) (sp_windows sp_least_minutes sp_needed_bounds sp__law_hand sp__law_any sp__law_asked sp__law_no_bounds sp__law_no_minutes sp__law_no_many sp__law_is_right : DSp) : DS := (sSeq (sAsg (dCall sp__law_hand (dCons (dVar 0) dNil)) (gVar 1)) (sSeq (sFor (iRange1 (dCons (dC (.int 3)) dNil)) (gVar 2) (sSeq (sAsg (dCall sp__law_asked (dCons (dVar 1) (dCons (dC (.int 6)) dNil))) (gTup 3 (gCons (gVar 3) (gCons (gVar 4) (gCons (gVar 5) gNil))))) (sSeq (sAsg (dFn gMin (dCons (dVar 4) (dCons (dC (.int 3)) dNil))) (gVar 4)) (sSeq (sAsg (dPart (dFn gTuple (dCons (dComp (iSeq (dVar 5)) (gVar 11) (tAnd (tOf (dOp fLtD (dOp fIx (dVar 11) (dC (.int 0))) (dVar 4))) (tOf (dOp fLtD (dOp fIx (dVar 11) (dC (.int 1))) (dVar 4)))) (dVar 11) [11]) dNil)) oNone (oSome (dC (.int 4)))) (gVar 5)) (sSeq (sIf (tNot (tOf (dCall sp__law_is_right (dCons (dVar 1) (dCons (dVar 3) (dCons (dVar 4) (dCons (dVar 5) dNil))))))) (sRet (dC (.bl false))) sNext) (sSeq (sAsg (dTup (dCons (dCall sp__law_no_minutes (dCons (dVar 1) dNil)) (dCons (dCall sp__law_no_many (dCons (dVar 1) dNil)) (dCons (dCall sp__law_no_bounds (dCons (dVar 1) (dCons (dVar 4) dNil))) dNil)))) (gTup 3 (gCons (gVar 6) (gCons (gVar 7) (gCons (gVar 8) gNil))))) (sSeq (sAsg (dCall sp__law_any (dCons (dVar 1) (dCons (dLst (dCons (dNeg (dC (.int 1))) (dCons (dVar 4) (dCons (dC .non) (dCons (dC (.bl true)) (dCons (dC (.str "0")) dNil)))))) dNil))) (gVar 9)) (sSeq (sAsg (dLstM (dCons (dLam (lamP K wo__law_word_of wx__law_word_of) (dCall sp_windows (dCons (dVar 6) (dCons (dVar 7) (dCons (dVar 8) (dCons (dVar 9) dNil)))))) dNil)) (gVar 10)) (sSeq (sDrop (dMeth tyLst rApp (dVar 10) (dCons (dLam (lamP K wo__law_word_of wx__law_word_of) (dCall sp_windows (dCons (dVar 3) (dCons (dVar 7) (dCons (dVar 8) (dCons (dVar 9) dNil)))))) dNil))) (sSeq (sDrop (dMeth tyLst rApp (dVar 10) (dCons (dLam (lamP K wo__law_word_of wx__law_word_of) (dCall sp_windows (dCons (dVar 3) (dCons (dVar 4) (dCons (dVar 8) (dCons (dVar 9) dNil)))))) dNil))) (sSeq (sDrop (dMeth tyLst rApp (dVar 10) (dCons (dLam (lamP K wo__law_word_of wx__law_word_of) (dCall sp_windows (dCons (dVar 3) (dCons (dVar 4) (dCons (dVar 5) (dCons (dVar 9) dNil)))))) dNil))) (sSeq (sDrop (dMeth tyLst rApp (dVar 10) (dCons (dLam (lamP K wo__law_word_of wx__law_word_of) (dCall sp_least_minutes (dCons (dVar 7) (dCons (dVar 8) dNil)))) dNil))) (sSeq (sDrop (dMeth tyLst rApp (dVar 10) (dCons (dLam (lamP K wo__law_word_of wx__law_word_of) (dCall sp_least_minutes (dCons (dVar 4) (dCons (dVar 8) dNil)))) dNil))) (sSeq (sDrop (dMeth tyLst rApp (dVar 10) (dCons (dLam (lamP K wo__law_word_of wx__law_word_of) (dCall sp_needed_bounds (dCons (dVar 6) (dCons (dVar 4) (dCons (dVar 5) dNil))))) dNil))) (sIf (tOf (dOp fNe (dVar 10) (dLst (dCons (dC (.str "minutes")) (dCons (dC (.str "events")) (dCons (dC (.str "bounds")) (dCons (dC (.str "event")) (dCons (dC (.str "events")) (dCons (dC (.str "bounds")) (dCons (dC (.str "minutes")) dNil)))))))))) (sRet (dC (.bl false))) sNext))))))))))))))) (sSeq (sIf (tOf (dOp fNe (dCall sp_needed_bounds (dCons (dC (.int 10)) (dCons (dC (.int 2)) (dCons (dTup (dCons (dTup (dCons (dC (.int 0)) (dCons (dC (.int 1)) (dCons (dC (.int 3)) (dCons (dC (.int 4)) dNil))))) (dCons (dTup (dCons (dC (.int 1)) (dCons (dC (.int 0)) (dCons (dC (.int 3)) (dCons (dC (.int 4)) dNil))))) dNil))) dNil)))) (dTup (dCons (dC (.int 0)) (dCons (dC (.int 1)) dNil))))) (sRet (dC (.bl false))) sNext) (sRet (dOp fEq (dCall sp_windows (dCons (dC (.int 10)) (dCons (dC (.int 2)) (dCons (dTup (dCons (dTup (dCons (dC (.int 0)) (dCons (dC (.int 1)) (dCons (dC (.int 3)) (dCons (dC (.int 4)) dNil))))) (dCons (dTup (dCons (dC (.int 1)) (dCons (dC (.int 0)) (dCons (dC (.int 5)) (dCons (dC (.int 7)) dNil))))) dNil))) (dCons (dC (.int 1)) dNil))))) (dTup (dCons (dC (.int 3)) (dCons (dC (.int 4)) dNil))))))))
theorem sim_law : SimS K (t_law K (fP K 4 F_windows) (fP K 2 F_least_minutes) (fP K 3 F_needed_bounds) (fPo K 1 F__law_hand) (fP K 2 F__law_any) (fP K 2 F__law_asked) (fP K 2 F__law_no_bounds) (fP K 1 F__law_no_minutes) (fP K 1 F__law_no_many) (fP K 4 F__law_is_right)) f_law := by
  unfold t_law f_law
  exact (sims_seq (sims_asgO (simo_call (sima_cons sim_var sima_nil) (na_cons na_nil))) (sims_seq (sims_for (simi_range1 (sima_cons sim_c sima_nil)) simg_var (sims_seq (sims_asg (sim_callH (sima_cons sim_c sima_nil) (na_h (na_cons na_nil))) (simg_tup (simg_cons simg_var (simg_cons simg_var (simg_cons simg_var simg_nil))))) (sims_seq (sims_asg (sim_fn olv_min (simvs_cons (simv_so sim_var) (simvs_cons (simv_so sim_c) simvs_nil))) simg_var) (sims_seq (sims_asg (sim_part (simv_so (sim_fn olv_tuple (simvs_cons (simv_so (sim_comp (simi_seq (simv_so sim_var)) simw_var (simt_a (simt_t (sim_op opv_ltD (simv_so (sim_op opv_ix (simv_so sim_var) (simv_so sim_c))) (simv_so sim_var))) (simt_t (sim_op opv_ltD (simv_so (sim_op opv_ix (simv_so sim_var) (simv_so sim_c))) (simv_so sim_var)))) sim_var)) simvs_nil))) sim_pnone (sim_psome sim_c)) simg_var) (sims_seq (sims_if (simt_n (simt_t (sim_callH (sima_cons sim_var (sima_cons sim_var (sima_cons sim_var sima_nil))) (na_h (na_cons (na_cons (na_cons na_nil))))))) (sims_ret sim_c) sims_next) (sims_seq (sims_asg (sim_tup (sima_cons (sim_callH sima_nil (na_h na_nil)) (sima_cons (sim_callH sima_nil (na_h na_nil)) (sima_cons (sim_callH (sima_cons sim_var sima_nil) (na_h (na_cons na_nil))) sima_nil)))) (simg_tup (simg_cons simg_var (simg_cons simg_var (simg_cons simg_var simg_nil))))) (sims_seq (sims_asg (sim_callH (sima_cons (sim_lst (sima_cons (sim_neg sim_c) (sima_cons sim_var (sima_cons sim_c (sima_cons sim_c (sima_cons sim_c sima_nil)))))) sima_nil) (na_h (na_cons na_nil))) simg_var) (sims_seq (sims_asgO (simo_lst (sima_cons (sim_lam (sim_call (sima_cons sim_var (sima_cons sim_var (sima_cons sim_var (sima_cons sim_var sima_nil)))) (na_cons (na_cons (na_cons (na_cons na_nil)))))) sima_nil))) (sims_seq (sims_drop (sim_app (sima_cons (sim_lam (sim_call (sima_cons sim_var (sima_cons sim_var (sima_cons sim_var (sima_cons sim_var sima_nil)))) (na_cons (na_cons (na_cons (na_cons na_nil)))))) sima_nil))) (sims_seq (sims_drop (sim_app (sima_cons (sim_lam (sim_call (sima_cons sim_var (sima_cons sim_var (sima_cons sim_var (sima_cons sim_var sima_nil)))) (na_cons (na_cons (na_cons (na_cons na_nil)))))) sima_nil))) (sims_seq (sims_drop (sim_app (sima_cons (sim_lam (sim_call (sima_cons sim_var (sima_cons sim_var (sima_cons sim_var (sima_cons sim_var sima_nil)))) (na_cons (na_cons (na_cons (na_cons na_nil)))))) sima_nil))) (sims_seq (sims_drop (sim_app (sima_cons (sim_lam (sim_call (sima_cons sim_var (sima_cons sim_var sima_nil)) (na_cons (na_cons na_nil)))) sima_nil))) (sims_seq (sims_drop (sim_app (sima_cons (sim_lam (sim_call (sima_cons sim_var (sima_cons sim_var sima_nil)) (na_cons (na_cons na_nil)))) sima_nil))) (sims_seq (sims_drop (sim_app (sima_cons (sim_lam (sim_call (sima_cons sim_var (sima_cons sim_var (sima_cons sim_var sima_nil))) (na_cons (na_cons (na_cons na_nil))))) sima_nil))) (sims_if (simt_t (sim_op opv_ne simv_sl (simv_so (sim_lst (sima_cons sim_c (sima_cons sim_c (sima_cons sim_c (sima_cons sim_c (sima_cons sim_c (sima_cons sim_c (sima_cons sim_c sima_nil))))))))))) (sims_ret sim_c) sims_next))))))))))))))) (sims_seq (sims_if (simt_t (sim_op opv_ne (simv_so (sim_call (sima_cons sim_c (sima_cons sim_c (sima_cons (sim_tup (sima_cons (sim_tup (sima_cons sim_c (sima_cons sim_c (sima_cons sim_c (sima_cons sim_c sima_nil))))) (sima_cons (sim_tup (sima_cons sim_c (sima_cons sim_c (sima_cons sim_c (sima_cons sim_c sima_nil))))) sima_nil))) sima_nil))) (na_cons (na_cons (na_cons na_nil))))) (simv_so (sim_tup (sima_cons sim_c (sima_cons sim_c sima_nil)))))) (sims_ret sim_c) sims_next) (sims_ret (sim_op opv_eq (simv_so (sim_call (sima_cons sim_c (sima_cons sim_c (sima_cons (sim_tup (sima_cons (sim_tup (sima_cons sim_c (sima_cons sim_c (sima_cons sim_c (sima_cons sim_c sima_nil))))) (sima_cons (sim_tup (sima_cons sim_c (sima_cons sim_c (sima_cons sim_c (sima_cons sim_c sima_nil))))) sima_nil))) (sima_cons sim_c sima_nil)))) (na_cons (na_cons (na_cons (na_cons na_nil)))))) (simv_so (sim_tup (sima_cons sim_c (sima_cons sim_c sima_nil)))))))))
theorem rdx_law : ∀ ds M Q E, (fP K 1 F_law) ds M Q E → (t_law K (fP K 4 F_windows) (fP K 2 F_least_minutes) (fP K 3 F_needed_bounds) (fPo K 1 F__law_hand) (fP K 2 F__law_any) (fP K 2 F__law_asked) (fP K 2 F__law_no_bounds) (fP K 1 F__law_no_minutes) (fP K 1 F__law_no_many) (fP K 4 F__law_is_right)) (endF Q E) (startD ["script", "hand", "turn", "minutes", "many", "bounds", "none", "odd", "bad", "event", "words", "one"] ds) M := by
  unfold F_law
  exact rd_m (N := ["script", "hand", "turn", "minutes", "many", "bounds", "none", "odd", "bad", "event", "words", "one"]) rfl (sim_law (K := K))
theorem ok_law (B : Bs K mg) (Z : DefAt K mg "law" s_law) (LB : LamAt K mg base T "law") (hga : mg "law" = some (.ref (He.ga K "law"))) (Z__law_word_of : DefAt K mg "_law_word_of" s__law_word_of) (g_windows : FnX P w K mg base T false k "windows" ["minutes", "many", "bounds", "event"] (fP K 4 F_windows)) (g_least_minutes : FnX P w K mg base T false k "least_minutes" ["many", "bounds"] (fP K 2 F_least_minutes)) (g_needed_bounds : FnX P w K mg base T false k "needed_bounds" ["minutes", "many", "bounds"] (fP K 3 F_needed_bounds)) (g__law_hand : FnX P w K mg base T false k "_law_hand" ["script"] (fPo K 1 F__law_hand)) (g__law_any : FnX P w K mg base T false k "_law_any" ["hand", "some"] (fP K 2 F__law_any)) (g__law_asked : FnX P w K mg base T false k "_law_asked" ["hand", "most"] (fP K 2 F__law_asked)) (g__law_no_bounds : FnX P w K mg base T false k "_law_no_bounds" ["hand", "many"] (fP K 2 F__law_no_bounds)) (g__law_no_minutes : FnX P w K mg base T false k "_law_no_minutes" ["hand"] (fP K 1 F__law_no_minutes)) (g__law_no_many : FnX P w K mg base T false k "_law_no_many" ["hand"] (fP K 1 F__law_no_many)) (g__law_is_right : FnX P w K mg base T false k "_law_is_right" ["hand", "minutes", "many", "bounds"] (fP K 4 F__law_is_right)) : FnX P w K mg base T false (k + 2 + 1) "law" ["script"] (fP K 1 F_law) := by
  have hkk : Nat.ble k k = true := Nat.ble_self_eq_true k
  have hk2 : Nat.ble k (k + 2) = true := Nat.ble_eq_true_of_le (Nat.le_add_right k 2)
  exact fnxL_of (k := k + 2) hga Z sc_law bn_law len_f mono_f (t := (t_law K (fP K 4 F_windows) (fP K 2 F_least_minutes) (fP K 3 F_needed_bounds) (fPo K 1 F__law_hand) (fP K 2 F__law_any) (fP K 2 F__law_asked) (fP K 2 F__law_no_bounds) (fP K 1 F__law_no_minutes) (fP K 1 F__law_no_many) (fP K 4 F__law_is_right))) (fun f cdv A outer s H M E hr hg hcd => by
    unfold t_law
    exact (dss_cons (dsl 1 (dcx g__law_hand (da_cons (dvl 0) da_nil) hk2)) (dss_cons (ds_for rfl (di_range1 rfl B.b_range (da_cons de_int da_nil)) (dgl 2) (dss_cons (ds_asg (dcx g__law_asked (da_cons (dvl 1) (da_cons de_int da_nil)) hk2) (dg_tup rfl (dgs_cons (dgc 3) (dgs_cons (dgc 4) (dgs_cons (dgc 5) dgs_nil))))) (dss_cons (dsc 4 (dcb B.b_min bb_min (cl_min rfl) (da_cons (dvc 4) (da_cons de_int da_nil)))) (dss_cons (dsc 5 (de_part (dct B.b_tuple bb_tuple cl_tuple (da_cons (de_comp (own := [("one", 11)]) rfl (di_seq (dvc 5)) (blkOk_by (by kernel_rfl)) (fun _ _ _ _ _ => (dwl 11)) (fun _ _ _ _ _ => (dts_one (dt_and (dt_cmp dop_ltD (de_ix (dvl 11) de_int) (dvc 4)) (dt_and1 (dt_cmp dop_ltD (de_ix (dvl 11) de_int) (dvc 4)))))) (fun _ _ _ _ _ => (dvl 11))) da_nil)) do_none (do_some de_int))) (dss_cons (ds_if (dt_not (dt_val (dcx g__law_is_right (da_cons (dvl 1) (da_cons (dvc 3) (da_cons (dvc 4) (da_cons (dvc 5) da_nil)))) hk2))) (dss_one (ds_ret de_bl)) dss_nil) (dss_cons (ds_asg (de_tup (da_cons (dcx g__law_no_minutes (da_cons (dvl 1) da_nil) hk2) (da_cons (dcx g__law_no_many (da_cons (dvl 1) da_nil) hk2) (da_cons (dcx g__law_no_bounds (da_cons (dvl 1) (da_cons (dvc 4) da_nil)) hk2) da_nil)))) (dg_tup rfl (dgs_cons (dgc 6) (dgs_cons (dgc 7) (dgs_cons (dgc 8) dgs_nil))))) (dss_cons (dsc 9 (dcx g__law_any (da_cons (dvl 1) (da_cons (de_lst (da_cons (de_neg de_int) (da_cons (dvc 4) (da_cons de_non (da_cons de_bl (da_cons de_str da_nil)))))) da_nil)) hk2)) (dss_cons (dsl 10 (de_lstM (da_cons (de_lamw LB hcd hr Z__law_word_of bn__law_word_of sc__law_word_of (.inl rfl) monoL_lamP (fun g cdv q => gw__law_word_of B (hr.mono (Nat.le_add_left 2 k)) g cdv q) (fun _ _ _ _ _ _ _ _ _ _ _ _ => (dcx g_windows (da_cons (dvf 6) (da_cons (dvf 7) (da_cons (dvf 8) (da_cons (dvf 9) da_nil)))) hkk))) da_nil))) (dss_cons (ds_expr (de_append (dvl 10) (da_cons (de_lamw LB hcd hr Z__law_word_of bn__law_word_of sc__law_word_of (.inl rfl) monoL_lamP (fun g cdv q => gw__law_word_of B (hr.mono (Nat.le_add_left 2 k)) g cdv q) (fun _ _ _ _ _ _ _ _ _ _ _ _ => (dcx g_windows (da_cons (dvf 3) (da_cons (dvf 7) (da_cons (dvf 8) (da_cons (dvf 9) da_nil)))) hkk))) da_nil))) (dss_cons (ds_expr (de_append (dvl 10) (da_cons (de_lamw LB hcd hr Z__law_word_of bn__law_word_of sc__law_word_of (.inl rfl) monoL_lamP (fun g cdv q => gw__law_word_of B (hr.mono (Nat.le_add_left 2 k)) g cdv q) (fun _ _ _ _ _ _ _ _ _ _ _ _ => (dcx g_windows (da_cons (dvf 3) (da_cons (dvf 4) (da_cons (dvf 8) (da_cons (dvf 9) da_nil)))) hkk))) da_nil))) (dss_cons (ds_expr (de_append (dvl 10) (da_cons (de_lamw LB hcd hr Z__law_word_of bn__law_word_of sc__law_word_of (.inl rfl) monoL_lamP (fun g cdv q => gw__law_word_of B (hr.mono (Nat.le_add_left 2 k)) g cdv q) (fun _ _ _ _ _ _ _ _ _ _ _ _ => (dcx g_windows (da_cons (dvf 3) (da_cons (dvf 4) (da_cons (dvf 5) (da_cons (dvf 9) da_nil)))) hkk))) da_nil))) (dss_cons (ds_expr (de_append (dvl 10) (da_cons (de_lamw LB hcd hr Z__law_word_of bn__law_word_of sc__law_word_of (.inl rfl) monoL_lamP (fun g cdv q => gw__law_word_of B (hr.mono (Nat.le_add_left 2 k)) g cdv q) (fun _ _ _ _ _ _ _ _ _ _ _ _ => (dcx g_least_minutes (da_cons (dvf 7) (da_cons (dvf 8) da_nil)) hkk))) da_nil))) (dss_cons (ds_expr (de_append (dvl 10) (da_cons (de_lamw LB hcd hr Z__law_word_of bn__law_word_of sc__law_word_of (.inl rfl) monoL_lamP (fun g cdv q => gw__law_word_of B (hr.mono (Nat.le_add_left 2 k)) g cdv q) (fun _ _ _ _ _ _ _ _ _ _ _ _ => (dcx g_least_minutes (da_cons (dvf 4) (da_cons (dvf 8) da_nil)) hkk))) da_nil))) (dss_cons (ds_expr (de_append (dvl 10) (da_cons (de_lamw LB hcd hr Z__law_word_of bn__law_word_of sc__law_word_of (.inl rfl) monoL_lamP (fun g cdv q => gw__law_word_of B (hr.mono (Nat.le_add_left 2 k)) g cdv q) (fun _ _ _ _ _ _ _ _ _ _ _ _ => (dcx g_needed_bounds (da_cons (dvf 6) (da_cons (dvf 4) (da_cons (dvf 5) da_nil))) hkk))) da_nil))) (dss_one (ds_if (dt_cmp dop_ne (dvl 10) (de_lst (da_cons de_str (da_cons de_str (da_cons de_str (da_cons de_str (da_cons de_str (da_cons de_str (da_cons de_str da_nil))))))))) (dss_one (ds_ret de_bl)) dss_nil)))))))))))))))) (dss_cons (ds_if (dt_cmp dop_ne (dcx g_needed_bounds (da_cons de_int (da_cons de_int (da_cons (de_tup (da_cons (de_tup (da_cons de_int (da_cons de_int (da_cons de_int (da_cons de_int da_nil))))) (da_cons (de_tup (da_cons de_int (da_cons de_int (da_cons de_int (da_cons de_int da_nil))))) da_nil))) da_nil))) hk2) (de_tup (da_cons de_int (da_cons de_int da_nil)))) (dss_one (ds_ret de_bl)) dss_nil) (dss_one (ds_ret (de_cmp dop_eq (dcx g_windows (da_cons de_int (da_cons de_int (da_cons (de_tup (da_cons (de_tup (da_cons de_int (da_cons de_int (da_cons de_int (da_cons de_int da_nil))))) (da_cons (de_tup (da_cons de_int (da_cons de_int (da_cons de_int (da_cons de_int da_nil))))) da_nil))) (da_cons de_int da_nil)))) hk2) (de_tup (da_cons de_int (da_cons de_int da_nil)))))))))) (rdx_law)
end
end K53

namespace K53
open PySem PySem.Spec PyProof.Rows L2 DL
def HO (l : List D) : Prop := ∃ (cs : List Int) (a b c : Int), l = [.lst (cs.map D.int), .int a, .int b, .int c] ∧ 0 ≤ a ∧ 0 ≤ b
theorem ix4_1 : L2.ixN 4 1 = some 1 := by decide
theorem ix4_2 : L2.ixN 4 2 = some 2 := by decide
theorem ix4_3 : L2.ixN 4 3 = some 3 := by decide
theorem sml {z k : Int} (h1 : 0 < k) (h2 : k < 4294967296) : small (z % k) = true := by
  have := Int.emod_nonneg z (show k ≠ 0 by omega)
  have := Int.emod_lt_of_pos z h1
  simp only [small, Bool.and_eq_true, decide_eq_true_eq]
  omega
theorem pow18 : fPow (.int 10) (.int 18) Mn = some (.int 1000000000000000000) := by simp [fPow, fI]
theorem mixed_ok (c t : Int) : ∃ v, Fv F__law_mixed [.int c, .int t] = .ok (.int v) := by
  obtain ⟨d, ⟨v, rfl⟩, e⟩ := Fv_ex (u := f__law_mixed) (m := 3) (ds := [.int c, .int t]) (P := fun d => ∃ v, d = .int v) (by
    unfold f__law_mixed
    simp [z_mod, z_div, z_mulc, z_mulc', show small 7919 = true by decide, show small 48271 = true by decide, sml])
  exact ⟨v, e⟩
theorem draw_ok {n : Int} (hn : 0 < n) (hn2 : n < 1073741824) : Hd HO F__law_draw [.int n] (fun d => ∃ v, d = .int v ∧ 0 ≤ v ∧ v < n) := by
  refine Hd_of fun l ⟨cs, a, b, c, el, ha, hb⟩ => ?_
  subst el
  have m1 : ∀ z : Int, 0 ≤ z % n ∧ z % n < n := fun z => ⟨Int.emod_nonneg _ (by omega), Int.emod_lt_of_pos _ hn⟩
  unfold f__law_draw
  simp [ix4_1, ix4_2, ix4_3, z_mod hn, z_div hn hn2]
  split
  · exact ⟨m1 _, cs, a, b / n, c + 1, rfl, ha, Int.ediv_nonneg hb (by omega)⟩
  · split
    · obtain ⟨v, ev⟩ := mixed_ok 0 (c + 1)
      simp [ev, z_mod hn]
      exact ⟨m1 _, cs, _, _, _, rfl, by omega, hb⟩
    · rename_i h1
      have hp : 0 < cs.length := List.length_pos_iff.mpr h1
      obtain ⟨i, rfl⟩ := Int.eq_ofNat_of_zero_le ha
      have hi : i % cs.length < cs.length := Nat.mod_lt _ hp
      have at1 : L2.atI (cs.map D.int) ((i : Int) % (cs.length : Int)) = some (.int cs[i % cs.length]) := by
        rw [← Int.natCast_emod, z_atN]; simp [hi]
      simp [z_mod (show (0 : Int) < (cs.length : Int) by omega), at1, pow18]
      generalize cs[i % cs.length] = cell
      obtain ⟨v, ev⟩ := mixed_ok cell (c + 1)
      have fin : okR (R.of (fMod (D.int v) (D.int n) Mn) [SV.ow (some 0) (OD.lst [D.lst (List.map D.int cs), D.int (i + 1), D.int b, D.int (c + 1)]), SV.va (D.int n), SV.no, SV.va (D.lst (List.map D.int cs)), SV.va (D.int i), SV.va (D.int cell)]) (fun d S => (∃ v, d = D.int v ∧ 0 ≤ v ∧ v < n) ∧ ∃ l', getS S 0 = SV.ow (some 0) (OD.lst l') ∧ HO l') noE := by
        simp [z_mod hn]
        exact ⟨m1 _, cs, _, _, _, rfl, by omega, hb⟩
      split
      · by_cases h2 : 1000000000000000000 ≤ if cell < 0 then -cell else cell
        · simp [h2, z_div hn hn2, z_mod hn, ix4_2]
          exact ⟨m1 _, cs, _, _, _, rfl, by omega, Int.ediv_nonneg (by split <;> omega) (by omega)⟩
        · simp [h2, ev]
          exact fin
      · simp [ev]
        exact fin
theorem any_ok {xs : List D} {sm : D} (hg : gLen [sm] Mn = some (.int xs.length)) (hi : ∀ (k : Nat) (hk : k < xs.length), fIx sm (.int k) Mn = some xs[k]) (hx : xs ≠ []) (hx2 : xs.length < 1000000) : Hd HO F__law_any [sm] (fun d => d ∈ xs) := by
  refine Hd_of fun l hl => ?_
  have hp : 0 < xs.length := List.length_pos_iff.mpr hx
  unfold f__law_any
  simp
  repeat rw [okR_bind']
  refine okR.callH (draw_ok (n := xs.length) (by omega) (by omega)) rfl (by simp [hg]; rfl) rfl hl ?_
  rintro d l' ⟨v, rfl, v0, v1⟩ hl'
  obtain ⟨k, rfl⟩ := Int.eq_ofNat_of_zero_le v0
  have hk : k < xs.length := by omega
  simp [hi k hk]
  exact hl'
theorem anyL_ok {xs : List D} (hx : xs ≠ []) (hx2 : xs.length < 1000000) : Hd HO F__law_any [.lst xs] (fun d => d ∈ xs) :=
  any_ok (by simp) (fun k hk => by rw [z_ixL, z_atN]; simp [hk]) hx hx2
theorem hand_ok (ns : List Int) (hl : ns.length ≤ 63) : ∃ l, HO l ∧ Ov F__law_hand [.scr (ns.map D.int)] = some l := by
  have ec : cutD (ns.map D.int) none (some 63) = ns.map D.int := by
    rw [show (63 : Int) = ((63 : Nat) : Int) from rfl, cut_to, List.take_of_length_le (by simpa using hl)]
  obtain ⟨S2, e, w⟩ := comp_pure (tg := fgVar 1) (a := fFn gInt (vCons (fSo (fVar 1)) vNil)) (vl := [1]) (fun d => d) (ns.map D.int) [.va (.scr (ns.map D.int)), .no] (wipe_wipe' _ _) (fun d hd => by
    obtain ⟨i, _, rfl⟩ := List.mem_map.mp hd
    exact ⟨_, rfl, by simp, by simp⟩)
  refine ⟨[.lst (ns.map D.int), .int 0, .int 0, .int 0], ⟨ns, 0, 0, 0, rfl, by decide, by decide⟩, Ov_of ?_⟩
  unfold f__law_hand
  simp [ec, e, w]
end K53

namespace K53
open PySem PySem.Spec PyProof.Rows L2 DL
/-! plain things -/
def plain : D → Bool
  | .ref _ => false
  | .ty _ => false
  | _ => true
def within (d : D) (lo hi : Int) : Bool := match d with
  | .int i => decide (lo ≤ i) && decide (i ≤ hi)
  | _ => false
def isInt : D → Bool
  | .int _ => true
  | _ => false
def sized (d : D) (lo hi : Int) : Bool := match d with
  | .tup xs => decide (lo ≤ (xs.length : Int)) && decide ((xs.length : Int) ≤ hi)
  | _ => false
theorem integer_ok {d : D} (h : plain d = true) : Fv F_is_integer [d] = .ok (.bl (isInt d)) := by
  refine Fv_of ?_
  unfold f_is_integer
  cases d <;> first | (simp [plain] at h; done) | simp [isInt]
theorem within_ok {d : D} {lo hi : Int} (h : plain d = true) : Fv F_is_within [d, .int lo, .int hi] = .ok (.bl (within d lo hi)) := by
  refine Fv_of ?_
  unfold f_is_within
  simp [integer_ok h]
  cases d <;> first | (simp [plain] at h; done) | simp [isInt, within]
  rename_i i
  by_cases h : lo ≤ i <;> simp [h]
theorem sized_ok {d : D} {lo hi : Int} (h : plain d = true) : Fv F_is_sized [d, .int lo, .int hi] = .ok (.bl (sized d lo hi)) := by
  refine Fv_of ?_
  unfold f_is_sized
  cases d <;> first | (simp [plain] at h; done) | simp [sized]
  rename_i xs
  by_cases h : lo ≤ (xs.length : Int) <;> simp [h]
theorem minutes_ok {d : D} (h : plain d = true) : Fv F_check_minutes [d] = if within d 2 60 = true then .ok .non else .ex "NoMinutes" [] := by
  split
  · rename_i hw
    refine Fv_of ?_
    unfold f_check_minutes
    simp [within_ok h, hw]
  · rename_i hw
    refine Fx_of ?_
    unfold f_check_minutes
    simp [within_ok h, hw]
def neI (a b : D) : Bool := match a, b with
  | .int i, .int j => !decide (i = j)
  | _, _ => false
def boundB (n : Int) (d : D) : Bool := match d with
  | .tup [a, b, .int lo, hi] => (within a 0 (n - 1) && within b 0 (n - 1)) && neI a b && within (.int lo) 0 200 && within hi lo 200
  | _ => false
theorem all_flags {p : D → Bool} (xs : List D) : gAll [.lst (xs.map fun d => .bl (p d))] Mn = some (.bl (xs.all p)) := by
  rw [z_allL, flags_map]; simp [List.all_map]; rfl
theorem any_flags {p : D → Bool} (xs : List D) : gAny [.lst (xs.map fun d => .bl (p d))] Mn = some (.bl (xs.any p)) := by
  rw [z_anyL, flags_map]; simp [List.any_map]; rfl
theorem sized4 {d : D} (h : sized d 4 4 = true) : ∃ a b c e, d = .tup [a, b, c, e] := by
  cases d <;> simp [sized] at h
  rename_i xs
  match xs, h with
  | [a, b, c, e], _ => exact ⟨a, b, c, e, rfl⟩
  | [], h => simp at h
  | [_], h => simp at h
  | [_, _], h => simp at h
  | [_, _, _], h => simp at h
  | _ :: _ :: _ :: _ :: _ :: _, h => simp at h; omega
def plain1 (d : D) : Bool := plain d && match d with
  | .tup xs => xs.all plain
  | _ => true
theorem cut2 {a b c e : D} : cutD [a, b, c, e] none (some 2) = [a, b] := by
  rw [show (2 : Int) = ((2 : Nat) : Int) from rfl, cut_to]; rfl
theorem within_int {d : D} {lo hi : Int} (h : within d lo hi = true) : ∃ i, d = .int i ∧ lo ≤ i ∧ i ≤ hi := by
  cases d <;> simp [within] at h
  exact ⟨_, rfl, h⟩
theorem bound_ok {n : Int} {d : D} (h : plain1 d = true) : Fv F_is_bound [.int n, d] = .ok (.bl (boundB n d)) := by
  have hp : plain d = true := by unfold plain1 at h; simp at h; exact h.1
  refine Fv_of ?_
  unfold f_is_bound
  simp [sized_ok hp]
  by_cases hs : sized d 4 4 = true
  · obtain ⟨a, b, c, e, rfl⟩ := sized4 hs
    have pa : plain a = true ∧ plain b = true ∧ plain c = true ∧ plain e = true := by simpa [plain1, plain] using h
    obtain ⟨S2, ec, w⟩ := comp_pure (tg := fgVar 2) (a := fCall F_is_within (aCons (fVar 2) (aCons (fC (.int 0)) (aCons (fOp fSub (fSo (fVar 0)) (fSo (fC (.int 1)))) aNil)))) (vl := [2]) (fun d => .bl (within d 0 (n - 1))) [a, b] [.va (.int n), .va (.tup [a, b, c, e]), .no] (wipe_wipe' _ _) (fun d hd => by
      have pd : plain d = true := by simp at hd; rcases hd with rfl | rfl; exact pa.1; exact pa.2.1
      exact ⟨_, rfl, by simp [within_ok pd], by simp⟩)
    simp [hs, cut2, ec, w]
    by_cases h1 : within a 0 (n - 1) = true
    · by_cases h2 : within b 0 (n - 1) = true
      · obtain ⟨i, rfl, _⟩ := within_int h1
        obtain ⟨j, rfl, _⟩ := within_int h2
        simp [h1, h2]
        by_cases h3 : i = j
        · subst h3
          cases c <;> simp [boundB, h1, neI]
        · simp [h3, within_ok pa.2.2.1]
          by_cases h4 : within c 0 200 = true
          · obtain ⟨k, rfl, _⟩ := within_int h4
            simp [h4, within_ok pa.2.2.2, boundB, h1, h2, h3, neI]
          · simp [h4]
            cases c <;> simp [boundB, h1, h2, h3, neI]
            simp [h4]
      · simp [h1, h2]
        cases c <;> simp [boundB, h1, h2]
    · simp [h1]
      cases c <;> simp [boundB, h1]
  · simp [hs]
    unfold boundB
    split
    · simp [sized] at hs
    · rfl
end K53

namespace K53
open PySem PySem.Spec PyProof.Rows L2 DL
def plain2 (d : D) : Bool := plain d && match d with
  | .tup xs => xs.all plain1
  | _ => true
def boundsB (n : Int) (d : D) : Bool := sized d 0 10 && match d with
  | .tup xs => xs.all (boundB n)
  | _ => false
def bdR (n d : D) : Rv := match n with
  | .int k => if within (.int k) 1 6 = true then (if boundsB k d = true then .ok .non else .ex "NoBounds" []) else .ex "NoEvents" []
  | _ => .ex "NoEvents" []
theorem bounds_ok {n : D} {d : D} (hn : plain n = true) (h : within n 1 6 = true → plain2 d = true) : Fv F_check_bounds [n, d] = bdR n d := by
  by_cases hw : within n 1 6 = true
  · obtain ⟨k, rfl, _⟩ := within_int hw
    have h2 := h hw
    clear h
    unfold bdR; dsimp only
    rw [if_pos hw]
    have hp : plain d = true := by unfold plain2 at h2; simp at h2; exact h2.1
    by_cases hs : sized d 0 10 = true
    · cases d <;> try (simp [sized] at hs; done)
      rename_i xs
      have pa : ∀ x ∈ xs, plain1 x = true := by simpa [plain2, plain] using h2
      obtain ⟨S2, ec, w⟩ := comp_pure (tg := fgVar 2) (a := fCall F_is_bound (aCons (fVar 0) (aCons (fVar 2) aNil))) (vl := [2]) (fun d => .bl (boundB k d)) xs [.va (.int k), .va (.tup xs), .no] (wipe_wipe' _ _) (fun d hd => ⟨_, rfl, by simp [bound_ok (pa d hd)], by simp⟩)
      by_cases ha : xs.all (boundB k) = true
      · rw [if_pos (by simp only [boundsB, hs, ha, Bool.and_self])]
        refine Fv_of ?_
        unfold f_check_bounds
        simp [within_ok hn, hw, sized_ok hp, hs, ec, w, ha]
      · rw [if_neg (by simp only [boundsB, hs, ha]; simp)]
        refine Fx_of ?_
        unfold f_check_bounds
        simp [within_ok hn, hw, sized_ok hp, hs, ec, w, ha]
    · rw [if_neg (by simp only [boundsB, hs]; simp)]
      refine Fx_of ?_
      unfold f_check_bounds
      simp [within_ok hn, hw, sized_ok hp, hs]
  · have e : bdR n d = .ex "NoEvents" [] := by
      cases n <;> first | rfl | (unfold bdR; dsimp only; rw [if_neg hw])
    rw [e]
    refine Fx_of ?_
    unfold f_check_bounds
    simp [within_ok hn, hw]
/-! timetables -/
abbrev Bd := Int × Int × Int × Int
def dB (b : Bd) : D := .tup [.int b.1, .int b.2.1, .int b.2.2.1, .int b.2.2.2]
def dBs (bs : List Bd) : D := .tup (bs.map dB)
def dT (ts : List Int) : D := .tup (ts.map D.int)
def BdOk (n : Int) (b : Bd) : Prop := (0 ≤ b.1 ∧ b.1 < n) ∧ (0 ≤ b.2.1 ∧ b.2.1 < n) ∧ b.1 ≠ b.2.1 ∧ 0 ≤ b.2.2.1 ∧ b.2.2.1 ≤ b.2.2.2 ∧ b.2.2.2 ≤ 200
structure TtOk (m n : Int) (bs : List Bd) : Prop where
  hm : 2 ≤ m ∧ m ≤ 60
  hn : 1 ≤ n ∧ n ≤ 6
  hl : bs.length ≤ 10
  hb : ∀ b ∈ bs, BdOk n b
theorem dB_plain (b : Bd) : plain1 (dB b) = true := by simp [dB, plain1, plain]
theorem dBs_plain (bs : List Bd) : plain2 (dBs bs) = true := by simp [dBs, plain2, plain, dB_plain]
theorem dB_bound {n : Int} {b : Bd} (h : BdOk n b) : boundB n (dB b) = true := by
  obtain ⟨⟨a1, a2⟩, ⟨b1, b2⟩, ne, l1, l2, l3⟩ := h
  simp [dB, boundB, within, neI, a1, b1, l1, l2, l3, ne, show b.1 ≤ n - 1 by omega, show b.2.1 ≤ n - 1 by omega, show b.2.2.1 ≤ 200 by omega]
theorem dBs_bounds {m n : Int} {bs : List Bd} (h : TtOk m n bs) : boundsB n (dBs bs) = true := by
  simp only [boundsB, dBs, sized, List.length_map, Bool.and_eq_true, decide_eq_true_eq, List.all_eq_true]
  refine ⟨⟨by omega, by have := h.hl; omega⟩, fun x hx => ?_⟩
  obtain ⟨b, hb, rfl⟩ := List.mem_map.mp hx
  exact dB_bound (h.hb b hb)
theorem timetable_ok {m n : Int} {bs : List Bd} (h : TtOk m n bs) : Fv F_check_timetable [.int m, .int n, dBs bs] = .ok .non := by
  refine Fv_of ?_
  unfold f_check_timetable
  have e1 : Fv F_check_minutes [.int m] = .ok .non := by rw [minutes_ok rfl, if_pos (by simp [within, h.hm])]
  have e2 : Fv F_check_bounds [.int n, dBs bs] = .ok .non := by
    rw [bounds_ok rfl fun _ => dBs_plain bs]
    unfold bdR; dsimp only
    rw [if_pos (by simp [within, h.hn]), if_pos (dBs_bounds h)]
  simp [e1, e2]
def timesB (m n : Int) (d : D) : Bool := sized d n n && match d with
  | .tup xs => xs.all fun x => within x 0 (m - 1)
  | _ => false
def tens (m : Int) (b : Bd) (ts : List Int) : Int := b.2.2.1 + (ts[b.2.1.toNat]! - ts[b.1.toNat]! - b.2.2.1) % m
def TmOk (m n : Int) (ts : List Int) : Prop := (ts.length : Int) = n ∧ ∀ t ∈ ts, 0 ≤ t ∧ t < m
theorem ixT {ts : List Int} {i : Int} (h0 : 0 ≤ i) (h1 : i < ts.length) : L2.atI (ts.map D.int) i = some (.int ts[i.toNat]!) := by
  obtain ⟨k, rfl⟩ := Int.eq_ofNat_of_zero_le h0
  have hk : k < ts.length := by omega
  rw [z_atN]
  simp [hk]
def keepB (m : Int) (ts : List Int) (b : Bd) : Bool := decide (tens m b ts ≤ b.2.2.2)
end K53

namespace K53
open PySem PySem.Spec PyProof.Rows L2 DL
theorem dT_plain (ts : List Int) : plain1 (dT ts) = true := by simp [dT, plain1, plain]
theorem dT_times {m n : Int} {ts : List Int} (h : TmOk m n ts) : timesB m n (dT ts) = true := by
  simp only [timesB, dT, sized, List.length_map, Bool.and_eq_true, decide_eq_true_eq, List.all_eq_true]
  refine ⟨⟨by have := h.1; omega, by have := h.1; omega⟩, fun x hx => ?_⟩
  obtain ⟨t, ht, rfl⟩ := List.mem_map.mp hx
  have := h.2 t ht
  simp [within]; omega
/-! the fact -/
theorem turn_fact {m a lo hi : Int} (hm : 0 < m) (h0 : 0 ≤ lo) (h1 : lo ≤ hi) (a0 : -m < a) (a1 : a < m) : ((rangeD (-1) (hi / m + 2 + 1).toNat).any fun d => match d with | .int t => decide (lo ≤ a + t * m) && decide (a + t * m ≤ hi) | _ => false) = decide (lo + (a - lo) % m ≤ hi) := by
  have hd : 0 ≤ hi / m := Int.ediv_nonneg (by omega) (by omega)
  rw [Bool.eq_iff_iff]
  simp only [List.any_eq_true, decide_eq_true_eq]
  constructor
  · rintro ⟨d, hd', h⟩
    simp only [rangeD, List.mem_map, List.mem_range] at hd'
    obtain ⟨k, hk, rfl⟩ := hd'
    simp only [Bool.and_eq_true, decide_eq_true_eq] at h
    obtain ⟨h2, h3⟩ := h
    have e : (a - lo) % m = (a + (-1 + (k : Int)) * m - lo) % m := by
      rw [show a + (-1 + (k : Int)) * m - lo = (a - lo) + (-1 + (k : Int)) * m by omega, Int.add_mul_emod_self_right]
    have : (a + (-1 + (k : Int)) * m - lo) % m ≤ a + (-1 + (k : Int)) * m - lo := by
      have := Int.emod_add_mul_ediv (a + (-1 + (k : Int)) * m - lo) m
      have q : 0 ≤ (a + (-1 + (k : Int)) * m - lo) / m := Int.ediv_nonneg (by omega) (by omega)
      have q2 : 0 ≤ m * ((a + (-1 + (k : Int)) * m - lo) / m) := Int.mul_nonneg (by omega) q
      omega
    omega
  · intro h
    have r0 := Int.emod_nonneg (a - lo) (show m ≠ 0 by omega)
    have e := Int.emod_add_mul_ediv (a - lo) m
    -- x = lo + r = a - m q
    generalize hq : (a - lo) / m = q at e
    have x1 : a + (-q) * m = lo + (a - lo) % m := by rw [Int.neg_mul]; rw [Int.mul_comm] at e; omega
    have k0 : -1 < -q := by
      rcases Int.lt_or_le (-1) (-q) with z | z
      · exact z
      · exfalso
        have : (-q) * m ≤ (-1) * m := Int.mul_le_mul_of_nonneg_right z (by omega)
        omega
    have k1 : -q ≤ hi / m + 1 := by
      rcases Int.lt_or_le (hi / m + 1) (-q) with z | z
      · exfalso
        have : (hi / m + 2) * m ≤ (-q) * m := Int.mul_le_mul_of_nonneg_right (by omega) (by omega)
        have e2 := Int.emod_add_mul_ediv hi m
        have e3 := Int.emod_lt_of_pos hi hm
        rw [Int.add_mul] at this
        rw [Int.mul_comm] at e2
        omega
      · exact z
    refine ⟨.int (-q), ?_, ?_⟩
    · simp only [rangeD, List.mem_map, List.mem_range]
      exact ⟨(-q + 1).toNat, by omega, by rw [show (-1 : Int) + ((-q + 1).toNat : Int) = -q by omega]⟩
    · simp only [Bool.and_eq_true, decide_eq_true_eq]
      omega
theorem getT {ts : List Int} {m n : Int} (h : TmOk m n ts) {i : Int} (h0 : 0 ≤ i) (h1 : i < n) : 0 ≤ ts[i.toNat]! ∧ ts[i.toNat]! < m := by
  have hk : i.toNat < ts.length := by have := h.1; omega
  rw [getElem!_pos ts _ hk]
  exact h.2 _ (List.getElem_mem hk)
theorem lkeeps_ok {m n : Int} {b : Bd} {ts : List Int} (hm : 2 ≤ m ∧ m ≤ 60) (hb : BdOk n b) (ht : TmOk m n ts) : Fv F__law_keeps [.int m, dB b, dT ts] = .ok (.bl (keepB m ts b)) := by
  obtain ⟨⟨a1, a2⟩, ⟨b1, b2⟩, ne, l1, l2, l3⟩ := hb
  have i1 := ixT (ts := ts) a1 (by have := ht.1; omega)
  have i2 := ixT (ts := ts) b1 (by have := ht.1; omega)
  have g1 := getT ht a1 a2
  have g2 := getT ht b1 b2
  have hd : 0 ≤ b.2.2.2 / m ∧ b.2.2.2 / m ≤ 200 := ⟨Int.ediv_nonneg (by omega) (by omega), by
    have := Int.ediv_le_self (b := m) (show 0 ≤ b.2.2.2 by omega); omega⟩
  refine Fv_of ?_
  unfold f__law_keeps
  obtain ⟨S2, ec, w⟩ := comp_pure (tg := fgVar 7) (a := fChain fLeD fLeD (fSo (fVar 5)) (fSo (fOp fAdd (fSo (fOp fSub (fSo (fOp fIx (fSo (fVar 2)) (fSo (fVar 4)))) (fSo (fOp fIx (fSo (fVar 2)) (fSo (fVar 3)))))) (fSo (fOp fMul (fSo (fVar 7)) (fSo (fVar 0)))))) (fSo (fVar 6))) (vl := [7])
    (fun d => .bl (match d with | .int t => decide (b.2.2.1 ≤ ts[b.2.1.toNat]! - ts[b.1.toNat]! + t * m) && decide (ts[b.2.1.toNat]! - ts[b.1.toNat]! + t * m ≤ b.2.2.2) | _ => false)) (rangeD (-1) (b.2.2.2 / m + 2 + 1).toNat)
    [.va (.int m), .va (dB b), .va (.tup (ts.map D.int)), .va (.int b.1), .va (.int b.2.1), .va (.int b.2.2.1), .va (.int b.2.2.2), .no] (wipe_wipe' _ _) (fun d hd' => by
      simp only [rangeD, List.mem_map] at hd'
      obtain ⟨k, _, rfl⟩ := hd'
      refine ⟨_, rfl, ?_, by simp⟩
      simp [i1, i2, z_sub, z_mulc (show small m = true by simp [small]; omega)]
      split
      · simp_all
      · rename_i h
        simp only [Int.not_le] at h
        simp [Int.not_le.mpr h])
  have e1 : fDiv (.int b.2.2.2) (.int m) Mn = some (.int (b.2.2.2 / m)) := z_div (by omega) (by omega)
  have f := turn_fact (a := ts[b.2.1.toNat]! - ts[b.1.toNat]!) (by omega : 0 < m) l1 l2 (by omega) (by omega)
  have rg : (-4000000000000000000 : Int) ≤ b.2.2.2 / m + 2 ∧ b.2.2.2 / m + 2 ≤ 4000000000000000000 ∧ b.2.2.2 / m + 2 + 1 ≤ 16777216 := by omega
  simp only [dB] at ec w
  simp [dB, dT, e1, rg, ec, w]
  simpa [keepB, tens] using f
end K53

namespace K53
open PySem PySem.Spec PyProof.Rows L2 DL
/-! links walked again and again, plain -/
abbrev Ln := Nat × Nat × Int × D
structure St3 where
  ts : List Int
  cm : List (Option Ln)
  last : Option Nat
def viol (ts : List Int) (e : Ln) : Prop := ts[e.1]! + e.2.2.1 < ts[e.2.1]!
instance (ts : List Int) (e : Ln) : Decidable (viol ts e) := by unfold viol; infer_instance
def relax (s : St3) (e : Ln) : St3 := if viol s.ts e then ⟨s.ts.set e.2.1 (s.ts[e.1]! + e.2.2.1), s.cm.set e.2.1 (some e), some e.2.1⟩ else s
def LnOk (n : Nat) (e : Ln) : Prop := e.1 < n ∧ e.2.1 < n ∧ e.1 ≠ e.2.1
theorem get_set {α : Type} [Inhabited α] {l : List α} {i j : Nat} {x : α} (hi : i < l.length) : (l.set i x)[j]! = if j = i then x else l[j]! := by
  by_cases h : j = i
  · subst h; simp [hi]
  · rw [if_neg h]
    simp [List.getElem?_set, Ne.symm h]
structure Gh (n k : Nat) (es pre : List Ln) (s : St3) (L T : Nat → Nat) (c : Nat) : Prop where
  lt : s.ts.length = n
  lc : s.cm.length = n
  bd : ∀ v, L v ≤ k ∧ T v ≤ c
  no : ∀ v, v < n → s.cm[v]! = none → L v = 0
  lk : ∀ v, v < n → ∀ e, s.cm[v]! = some e → e ∈ es ∧ e.2.1 = v ∧ L v ≤ L e.1 + 1 ∧ (s.ts[e.1]! + e.2.2.1 < s.ts[v]! ∨ (s.ts[e.1]! + e.2.2.1 = s.ts[v]! ∧ T e.1 < T v))
  al : ∀ e ∈ es, viol s.ts e → k ≤ L e.1 + 1
  pr : ∀ e ∈ pre, viol s.ts e → k ≤ L e.1
  la : ∀ v, s.last = some v → v < n ∧ L v = k
  nl : s.last = none → ∀ e ∈ pre, ¬ viol s.ts e
theorem Gh.relax {n k : Nat} {es pre : List Ln} {s : St3} {L T : Nat → Nat} {c : Nat} (h : Gh n k es pre s L T c) {e : Ln} (he : e ∈ es) (ho : LnOk n e) : ∃ L' T' c', Gh n k es (pre ++ [e]) (relax s e) L' T' c' := by
  obtain ⟨u1, v1, uv⟩ := ho
  by_cases hv : viol s.ts e
  · have er : K53.relax s e = ⟨s.ts.set e.2.1 (s.ts[e.1]! + e.2.2.1), s.cm.set e.2.1 (some e), some e.2.1⟩ := if_pos hv
    rw [er]
    have gt : ∀ j, (s.ts.set e.2.1 (s.ts[e.1]! + e.2.2.1))[j]! = if j = e.2.1 then s.ts[e.1]! + e.2.2.1 else s.ts[j]! := fun j => get_set (by rw [h.lt]; exact v1)
    have gc : ∀ j, (s.cm.set e.2.1 (some e))[j]! = if j = e.2.1 then some e else s.cm[j]! := fun j => get_set (by rw [h.lc]; exact v1)
    have ek := h.al e he hv
    have hv' := hv
    unfold viol at hv'
    have vsub : ∀ f : Ln, f.1 ≠ e.2.1 → viol (s.ts.set e.2.1 (s.ts[e.1]! + e.2.2.1)) f → viol s.ts f := fun f hf q => by
      unfold viol at q ⊢
      rw [gt, gt, if_neg hf] at q
      split at q
      · rename_i hh; rw [hh]; omega
      · exact q
    refine ⟨fun v => if v = e.2.1 then k else L v, fun v => if v = e.2.1 then c + 1 else T v, c + 1, by simp [h.lt], by simp [h.lc], fun v => ?_, fun v hn q => ?_, fun v hn f q => ?_, fun f hf q => ?_, fun f hf q => ?_, fun v q => ?_, fun q => by cases q⟩
    · try dsimp only
      have := h.bd v
      split <;> omega
    · try dsimp only at q ⊢
      rw [gc] at q
      split at q
      · cases q
      · rename_i hh; rw [if_neg hh]; exact h.no v hn q
    · try dsimp only at q ⊢
      rw [gc] at q
      by_cases hh : v = e.2.1
      · rw [if_pos hh] at q
        cases q
        subst hh
        rw [if_pos rfl, if_neg uv, if_pos rfl, if_neg uv, gt, gt, if_neg uv, if_pos rfl]
        have := (h.bd e.1).2
        exact ⟨he, rfl, by omega, .inr ⟨rfl, by omega⟩⟩
      · rw [if_neg hh] at q
        obtain ⟨q1, q2, q3, q4⟩ := h.lk v hn f q
        have bv := h.bd v
        rw [if_neg hh, if_neg hh, gt, gt, if_neg hh]
        refine ⟨q1, q2, ?_, ?_⟩
        · by_cases hf : f.1 = e.2.1
          · rw [if_pos hf]; omega
          · rw [if_neg hf]; exact q3
        · by_cases hf : f.1 = e.2.1
          · rw [if_pos hf]
            rw [hf] at q4
            left
            rcases q4 with q4 | ⟨q4, _⟩ <;> omega
          · rw [if_neg hf, if_neg hf]; exact q4
    · try dsimp only at q ⊢
      by_cases hf2 : f.1 = e.2.1
      · rw [if_pos hf2]; omega
      · rw [if_neg hf2]; exact h.al f hf (vsub f hf2 q)
    · try dsimp only at q ⊢
      by_cases hf2 : f.1 = e.2.1
      · rw [if_pos hf2]; exact Nat.le_refl _
      · rw [if_neg hf2]
        rcases List.mem_append.mp hf with hf | hf
        · exact h.pr f hf (vsub f hf2 q)
        · obtain rfl := List.mem_singleton.mp hf
          unfold viol at q
          rw [gt, gt, if_neg uv, if_pos rfl] at q
          omega
    · try dsimp only at q ⊢
      cases q
      exact ⟨v1, by rw [if_pos rfl]⟩
  · have er : K53.relax s e = s := if_neg hv
    rw [er]
    refine ⟨L, T, c, h.lt, h.lc, h.bd, h.no, h.lk, h.al, fun f hf q => ?_, h.la, fun q f hf => ?_⟩
    · rcases List.mem_append.mp hf with hf | hf
      · exact h.pr f hf q
      · obtain rfl := List.mem_singleton.mp hf; exact absurd q hv
    · rcases List.mem_append.mp hf with hf | hf
      · exact h.nl q f hf
      · obtain rfl := List.mem_singleton.mp hf; exact hv
/-- the next pass begins -/
theorem Gh.pass {n k : Nat} {es : List Ln} {s : St3} {L T : Nat → Nat} {c : Nat} (h : Gh n k es es s L T c) : Gh n (k + 1) es [] ⟨s.ts, s.cm, none⟩ L T c :=
  ⟨h.lt, h.lc, fun v => by have := h.bd v; omega, h.no, h.lk, fun e he q => by have := h.pr e he q; omega, (fun e he => nomatch he), (fun v q => nomatch q), (fun _ e he => nomatch he)⟩
theorem Gh.start {n : Nat} {es : List Ln} : Gh n 1 es [] ⟨List.replicate n 0, List.replicate n none, none⟩ (fun _ => 0) (fun _ => 0) 0 :=
  ⟨by simp, by simp, fun v => by omega, fun v hn q => rfl, fun v hn e q => by simp [hn] at q, fun e he q => by omega, (fun e he => nomatch he), (fun v q => nomatch q), (fun _ e he => nomatch he)⟩
/-! a ring where all passes changed something -/
def pre1 (cm : List (Option Ln)) (v : Nat) : Nat := match cm[v]! with
  | some e => e.1
  | none => v
def stp (cm : List (Option Ln)) (v : Nat) : Nat → Nat
  | 0 => v
  | i + 1 => pre1 cm (stp cm v i)
theorem pigeon : ∀ (n : Nat) (f : Nat → Nat), (∀ i, i ≤ n → f i < n) → ∃ i j, i < j ∧ j ≤ n ∧ f i = f j := by
  intro n f hf
  refine Classical.byContradiction fun no => ?_
  have inj : ((List.range (n + 1)).map f).Nodup := by
    rw [List.nodup_iff_pairwise_ne, List.pairwise_map]
    refine (List.Pairwise.and_mem.mp List.pairwise_lt_range).imp fun {a b} ⟨ha, hb, hab⟩ e => ?_
    have := List.mem_range.mp hb
    exact no ⟨a, b, hab, by omega, e⟩
  have sub : ∀ x ∈ (List.range (n + 1)).map f, x ∈ List.range n := fun x hx => by
    obtain ⟨i, hi, rfl⟩ := List.mem_map.mp hx
    have := List.mem_range.mp hi
    exact List.mem_range.mpr (hf i (by omega))
  have := List.Nodup.length_le_of_subset inj (fun x hx => sub x hx)
  simp at this
  omega
structure Ring (n : Nat) (es : List Ln) (cm : List (Option Ln)) (v : Nat) (i p : Nat) : Prop where
  p0 : 1 ≤ p
  ip : i + p ≤ n
  per : ∀ m, i ≤ m → stp cm v (m + p) = stp cm v m
  some : ∀ m, stp cm v m < n ∧ ∃ e ∈ es, cm[stp cm v m]! = some e
theorem ring_ex {n : Nat} {es : List Ln} {s : St3} {L T : Nat → Nat} {c v : Nat} (h : Gh n n es es s L T c) (hv : s.last = some v) (ho : ∀ e ∈ es, LnOk n e) : ∃ i p, Ring n es s.cm v i p := by
  obtain ⟨v1, v2⟩ := h.la v hv
  have ch : ∀ i, i ≤ n → stp s.cm v i < n ∧ n ≤ L (stp s.cm v i) + i := by
    intro i
    induction i with
    | zero => intro _; exact ⟨v1, by show n ≤ L v + 0; omega⟩
    | succ i ih =>
      intro hi
      obtain ⟨a1, a2⟩ := ih (by omega)
      show pre1 s.cm (stp s.cm v i) < n ∧ n ≤ L (pre1 s.cm (stp s.cm v i)) + (i + 1)
      unfold pre1
      cases e : s.cm[stp s.cm v i]! with
      | none => have := h.no _ a1 e; omega
      | some e' =>
        obtain ⟨q1, q2, q3, _⟩ := h.lk _ a1 _ e
        exact ⟨(ho e' q1).1, by dsimp only; omega⟩
  obtain ⟨i, j, hij, hj, e⟩ := pigeon n (stp s.cm v) fun i hi => (ch i hi).1
  have per : ∀ m, i ≤ m → stp s.cm v (m + (j - i)) = stp s.cm v m := by
    intro m hm
    induction m with
    | zero =>
      have : i = 0 := by omega
      subst this
      simpa using e.symm
    | succ m ih =>
      by_cases hm2 : i ≤ m
      · rw [show m + 1 + (j - i) = (m + (j - i)) + 1 by omega]
        show pre1 s.cm (stp s.cm v (m + (j - i))) = pre1 s.cm (stp s.cm v m)
        rw [ih hm2]
      · have : i = m + 1 := by omega
        rw [show m + 1 + (j - i) = j by omega, ← e, this]
  have sm : ∀ m, stp s.cm v m < n ∧ ∃ e ∈ es, s.cm[stp s.cm v m]! = some e := by
    intro m
    induction m using Nat.strongRecOn with
    | _ m ih =>
      by_cases hm : m < n
      · obtain ⟨a1, a2⟩ := ch m (by omega)
        refine ⟨a1, ?_⟩
        cases e : s.cm[stp s.cm v m]! with
        | none => have := h.no _ a1 e; omega
        | some e' => exact ⟨e', (h.lk _ a1 _ e).1, rfl⟩
      · have := per (m - (j - i)) (by omega)
        rw [show m - (j - i) + (j - i) = m by omega] at this
        rw [this]
        exact ih _ (by omega)
  exact ⟨i, j - i, by omega, by omega, per, sm⟩
theorem ring_no {n : Nat} {es : List Ln} {s : St3} {L T : Nat → Nat} {c v i p : Nat} (h : Gh n n es es s L T c) (R : Ring n es s.cm v i p) (x : Nat → Int) (hx : ∀ e ∈ es, x e.2.1 ≤ x e.1 + e.2.2.1) : False := by
  have stepY : ∀ m, s.ts[stp s.cm v (m + 1)]! - x (stp s.cm v (m + 1)) ≤ s.ts[stp s.cm v m]! - x (stp s.cm v m) ∧ (s.ts[stp s.cm v (m + 1)]! - x (stp s.cm v (m + 1)) = s.ts[stp s.cm v m]! - x (stp s.cm v m) → T (stp s.cm v (m + 1)) < T (stp s.cm v m)) := by
    intro m
    obtain ⟨a1, e, he, e2⟩ := R.some m
    have ee : stp s.cm v (m + 1) = e.1 := by
      show pre1 s.cm (stp s.cm v m) = e.1
      unfold pre1
      rw [e2]
    obtain ⟨q1, q2, q3, q4⟩ := h.lk _ a1 _ e2
    have := hx e he
    rw [q2] at this
    rw [ee]
    rcases q4 with q4 | ⟨q4, q5⟩
    · exact ⟨by omega, fun z => by omega⟩
    · exact ⟨by omega, fun _ => q5⟩
  have dn : ∀ k, s.ts[stp s.cm v (i + k)]! - x (stp s.cm v (i + k)) ≤ s.ts[stp s.cm v i]! - x (stp s.cm v i) := by
    intro k
    induction k with
    | zero => exact Int.le_refl _
    | succ k ih => exact Int.le_trans (stepY (i + k)).1 ih
  have up : ∀ k, k ≤ p → s.ts[stp s.cm v (i + p)]! - x (stp s.cm v (i + p)) ≤ s.ts[stp s.cm v (i + (p - k))]! - x (stp s.cm v (i + (p - k))) := by
    intro k
    induction k with
    | zero => intro _; exact Int.le_refl _
    | succ k ih =>
      intro hk
      have a := ih (by omega)
      have b := (stepY (i + (p - (k + 1)))).1
      rw [show i + (p - (k + 1)) + 1 = i + (p - k) by omega] at b
      exact Int.le_trans a b
  have cyc := R.per i (Nat.le_refl _)
  have eqY : ∀ k, k ≤ p → s.ts[stp s.cm v (i + k)]! - x (stp s.cm v (i + k)) = s.ts[stp s.cm v i]! - x (stp s.cm v i) := by
    intro k hk
    have a := dn k
    have b := up (p - k) (by omega)
    rw [show p - (p - k) = k by omega, cyc] at b
    omega
  have tt : ∀ k, k ≤ p → T (stp s.cm v (i + k)) + k ≤ T (stp s.cm v i) := by
    intro k
    induction k with
    | zero => intro _; exact Nat.le_refl _
    | succ k ih =>
      intro hk
      have a := ih (by omega)
      have b := (stepY (i + k)).2 (by rw [show i + k + 1 = i + (k + 1) by omega, eqY (k + 1) hk, eqY k (by omega)])
      rw [show i + k + 1 = i + (k + 1) by omega] at b
      omega
  have z := tt p (Nat.le_refl _)
  rw [cyc] at z
  have := R.p0
  omega
end K53

namespace K53
open PySem PySem.Spec PyProof.Rows L2 DL
/-! settled, read -/
def dLn (e : Ln) : D := .tup [.int (e.1 : Nat), .int (e.2.1 : Nat), .int e.2.2.1, e.2.2.2]
def dCm : Option Ln → D
  | none => .non
  | some e => dLn e
def dLa : Option Nat → D
  | none => .non
  | some v => .int (v : Nat)
theorem at_nat {α : Type} [Inhabited α] {f : α → D} {ax : List α} {k : Nat} (h : k < ax.length) : L2.atI (ax.map f) (k : Int) = some (f ax[k]!) := by
  rw [z_atN]
  simp [h]
theorem ixNat {m k : Nat} (h : k < m) : L2.ixN m (k : Int) = some k := by
  unfold L2.ixN
  simp; omega
theorem rangeD_cons {lo : Int} {n : Nat} {d : D} {ds : List D} (h : rangeD lo n = d :: ds) : d = .int lo ∧ ∃ m, n = m + 1 ∧ ds = rangeD (lo + 1) m := by
  cases n with
  | zero => simp [rangeD] at h
  | succ m =>
    have e : rangeD lo (m + 1) = .int lo :: rangeD (lo + 1) m := by
      unfold rangeD
      rw [List.range_succ_eq_map, List.map_cons, List.map_map]
      refine congr (congrArg _ (by simp)) (List.map_congr_left fun k _ => ?_)
      simp
      omega
    rw [e] at h
    cases h
    exact ⟨rfl, m, rfl, rfl⟩
theorem rangeD_nil {lo : Int} {n : Nat} (h : ([] : List D) = rangeD lo n) : n = 0 := by
  cases n with
  | zero => rfl
  | succ n => simp [rangeD, List.range_succ_eq_map] at h
theorem mulR {n : Nat} {d : D} (h : n ≤ 1000) : fMul (.lst [d]) (.int n) Mn = some (.lst (List.replicate n d)) := by
  rw [f_mulL, if_pos ⟨by omega, by omega, by simp; show _ ≤ 16777216; omega⟩]
  simp
def feas (es : List Ln) (x : Nat → Int) : Prop := ∀ e ∈ es, x e.2.1 ≤ x e.1 + e.2.2.1
def SetP (n : Nat) (es : List Ln) (d : D) : Prop := (∃ ts : List Int, d = .tup [.lst (ts.map D.int), .non] ∧ ts.length = n ∧ ∀ e ∈ es, ¬ viol ts e) ∨ (∃ r : List D, d = .tup [.non, .tup r] ∧ ∀ x, ¬ feas es x)
/-- the state at a pass -/
def InvP (n k : Nat) (es : List Ln) (s5 s7 s8 : SV) (ds : List D) (S : Fs) : Prop := ∃ (pre rest : List Ln) (s : St3) (L T : Nat → Nat) (c : Nat) (s6 : SV), S = [.va (.int n), .va (.lst (es.map dLn)), .ow none (.lst (s.ts.map D.int)), .ow none (.lst (s.cm.map dCm)), .va (dLa s.last), s5, s6, s7, s8] ∧ ds = rest.map dLn ∧ es = pre ++ rest ∧ Gh n (k + 1) es pre s L T c
def InvA (n : Nat) (es : List Ln) (s7 s8 : SV) (ds : List D) (S : Fs) : Prop := ∃ (k m : Nat) (s : St3) (L T : Nat → Nat) (c : Nat) (s5 s6 : SV), S = [.va (.int n), .va (.lst (es.map dLn)), .ow none (.lst (s.ts.map D.int)), .ow none (.lst (s.cm.map dCm)), .va (dLa s.last), s5, s6, s7, s8] ∧ ds = rangeD k m ∧ k + m = n ∧
  ((k = 0 ∧ Gh n 1 es [] ⟨s.ts, s.cm, none⟩ L T c) ∨ (1 ≤ k ∧ s.last ≠ none ∧ Gh n k es es s L T c))
def InvB (n : Nat) (es : List Ln) (s : St3) (v : Nat) (ds : List D) (S : Fs) : Prop := ∃ (j m : Nat) (s5 s6 : SV), S = [.va (.int n), .va (.lst (es.map dLn)), .ow none (.lst (s.ts.map D.int)), .ow none (.lst (s.cm.map dCm)), .va (.int (stp s.cm v j : Nat)), s5, s6, .no, .no] ∧ ds = rangeD j m ∧ j + m = n
def InvW (n : Nat) (es : List Ln) (s : St3) (v p : Nat) (k : Nat) (S : Fs) : Prop := ∃ (q : Nat) (fd : List D) (s5 s6 : SV), S = [.va (.int n), .va (.lst (es.map dLn)), .ow none (.lst (s.ts.map D.int)), .ow none (.lst (s.cm.map dCm)), .va (.int (stp s.cm v n : Nat)), s5, s6, .ow none (.lst fd), .va (.int (stp s.cm v (n + q) : Nat))] ∧ 1 ≤ q ∧ q ≤ p ∧ k = p - q ∧ fd.length ≤ q
theorem settled_ok {n : Nat} (h1 : 1 ≤ n) (hn : n ≤ 1000) {es : List Ln} (ho : ∀ e ∈ es, LnOk n e) : ∃ d, SetP n es d ∧ Fv F_settled [.int n, .lst (es.map dLn)] = .ok d := by
  refine Fv_ex (P := SetP n es) ?_
  unfold f_settled
  simp [fOpO, fNr, mulR hn, show (-4000000000000000000 : Int) ≤ n ∧ (n : Int) ≤ 16777216 by omega]
  refine okO.for (InvA n es .no .no) ?_ ?_ _ _ ⟨0, n, ⟨List.replicate n 0, List.replicate n none, none⟩, _, _, _, _, _, by simp [dCm, dLa] <;> exact ⟨rfl, rfl⟩, by simp, by omega, .inl ⟨rfl, Gh.start⟩⟩
  · rintro d ds S ⟨k, m, s, L, T, c, s5, s6, rfl, e, hk, hG⟩
    obtain ⟨rfl, m, rfl, rfl⟩ := rangeD_cons e.symm
    have g1 : Gh n (k + 1) es [] ⟨s.ts, s.cm, none⟩ L T c := by
      rcases hG with ⟨rfl, g⟩ | ⟨_, _, g⟩
      · exact g
      · exact g.pass
    simp
    refine okO.for (InvP n k es (.va (.int k)) .no .no) ?_ ?_ _ _ ⟨[], es, ⟨s.ts, s.cm, none⟩, L, T, c, _, by simp [dLa] <;> exact rfl, rfl, rfl, g1⟩
    · rintro d ds S ⟨pre, rest, s, L, T, c, s6, rfl, e, hes, g⟩
      cases rest with
      | nil => cases e
      | cons f rest =>
        cases e
        have fm : f ∈ es := by rw [hes]; exact List.mem_append_right _ List.mem_cons_self
        have fo := ho f fm
        obtain ⟨L', T', c', g'⟩ := g.relax fm fo
        have i1 := at_nat (f := D.int) (ax := s.ts) (k := f.1) (by rw [g.lt]; exact fo.1)
        have i2 := at_nat (f := D.int) (ax := s.ts) (k := f.2.1) (by rw [g.lt]; exact fo.2.1)
        have x1 := ixNat (m := s.ts.length) (k := f.2.1) (by rw [g.lt]; exact fo.2.1)
        have x2 := ixNat (m := s.cm.length) (k := f.2.1) (by rw [g.lc]; exact fo.2.1)
        have nx : ∀ s6, InvP n k es (.va (.int k)) .no .no (rest.map dLn) [.va (.int n), .va (.lst (es.map dLn)), .ow none (.lst ((relax s f).ts.map D.int)), .ow none (.lst ((relax s f).cm.map dCm)), .va (dLa (relax s f).last), .va (.int k), s6, .no, .no] := fun s6 => ⟨pre ++ [f], rest, relax s f, L', T', c', s6, rfl, rfl, by rw [hes]; simp, g'⟩
        by_cases hv : viol s.ts f
        · have er : relax s f = ⟨s.ts.set f.2.1 (s.ts[f.1]! + f.2.2.1), s.cm.set f.2.1 (some f), some f.2.1⟩ := if_pos hv
          rw [er] at nx
          unfold viol at hv
          simp [dLn, i1, i2, hv, x1, x2, -List.getElem!_eq_getElem?_getD]
          simpa [List.map_set, dCm, dLa, dLn, -List.getElem!_eq_getElem?_getD] using nx (.va (dLn f))
        · have er : relax s f = s := if_neg hv
          rw [er] at nx
          unfold viol at hv
          simp [dLn, i1, i2, hv, -List.getElem!_eq_getElem?_getD]
          exact nx _
    · rintro S ⟨pre, rest, s, L, T, c, s6, rfl, e, hes, g⟩
      cases rest with
      | cons f rest => cases e
      | nil =>
        rw [List.append_nil] at hes
        subst hes
        cases hla : s.last with
        | none =>
          simp [dLa]
          exact .inl ⟨s.ts, rfl, g.lt, g.nl hla⟩
        | some v =>
          simp [dLa]
          exact ⟨k + 1, m, s, L, T, c, _, s6, by rw [hla]; simp [dLa] <;> exact rfl, by simp, by omega, .inr ⟨by omega, by rw [hla]; simp, g⟩⟩
  · rintro S ⟨k, m, s, L, T, c, s5, s6, rfl, e, hk, hG⟩
    have := rangeD_nil e
    subst this
    have kn : k = n := by omega
    subst kn
    rcases hG with ⟨z, _⟩ | ⟨_, hl, g⟩
    · omega
    · obtain ⟨v, hv⟩ := Option.ne_none_iff_exists'.mp hl
      obtain ⟨i, p, Rg⟩ := ring_ex g hv ho
      have none' : ∀ x, ¬ feas es x := fun x hx => ring_no g Rg x hx
      have look : ∀ j, ∃ e ∈ es, L2.atI (s.cm.map dCm) (stp s.cm v j : Int) = some (dLn e) ∧ e.1 = stp s.cm v (j + 1) := fun j => by
        obtain ⟨a1, e, he, e2⟩ := Rg.some j
        have q := at_nat (f := dCm) (ax := s.cm) (k := stp s.cm v j) (by rw [g.lc]; exact a1)
        rw [e2] at q
        refine ⟨e, he, q, ?_⟩
        show e.1 = pre1 s.cm (stp s.cm v j)
        unfold pre1
        rw [e2]
      simp [hv, dLa]
      rw [if_pos (by omega)]
      simp only [okR_ok]
      refine okO.for (InvB k es s v) ?_ ?_ _ _ ⟨0, k, _, _, by simp [stp] <;> exact ⟨rfl, rfl⟩, by simp, by omega⟩
      · rintro d ds S ⟨j, m, s5, s6, rfl, e, hj⟩
        obtain ⟨rfl, m, rfl, rfl⟩ := rangeD_cons e.symm
        obtain ⟨e, he, l1, l2⟩ := look j
        simp [l1]
        simp [dLn, l2]
        exact ⟨j + 1, m, _, _, rfl, by simp, by omega⟩
      · rintro S ⟨j, m, s5, s6, rfl, e, hj⟩
        have := rangeD_nil e
        subst this
        have jk : j = k := by omega
        subst jk
        obtain ⟨e, he, l1, l2⟩ := look j
        simp [l1, fLstO]
        simp [dLn, l1, l2, fNr]
        have cyc := Rg.per j (by have := Rg.ip; omega)
        refine okO.while (InvW j es s v p) ?_ _ (p - 1) _ ⟨1, [_], _, _, rfl, Nat.le_refl _, Rg.p0, rfl, by simp⟩ (Nat.lt_of_lt_of_le (show p - 1 < 1001 by have := Rg.ip; omega) (by decide))
        rintro n S ⟨q, fd, s5, s6, rfl, q1, q2, rfl, q3⟩
        by_cases hq : stp s.cm v (j + q) = stp s.cm v j
        · simp [hq]
          exact .inr ⟨_, rfl, none'⟩
        · have hq' : ¬ (stp s.cm v (j + q) : Int) = stp s.cm v j := by omega
          have qp : q < p := by
            rcases Nat.lt_or_ge q p with z | z
            · exact z
            · have : q = p := by omega
              subst this
              exact absurd cyc hq
          obtain ⟨f, hf, m1, m2⟩ := look (j + q)
          have ip := Rg.ip
          have fz : fd.length < 16777216 := by omega
          simp [hq', m1]
          simp [dLn, m1, m2, fz]
          exact ⟨p - (q + 1), by omega, q + 1, _, _, _, rfl, by omega, by omega, rfl, by simp; omega⟩
end K53

namespace K53
open PySem PySem.Spec PyProof.Rows L2 DL
/-! links of told turns -/
abbrev Tld := List (Nat × Int)
def dTd (t : Tld) : D := .tup (t.map fun p => .tup [.int (p.1 : Nat), .int p.2])
def l2 (m : Int) (bs : List Bd) (p : Nat × Int) : List Ln :=
  [(bs[p.1]!.1.toNat, bs[p.1]!.2.1.toNat, bs[p.1]!.2.2.2 - p.2 * m, .tup [.str "high", .int (p.1 : Nat)]), (bs[p.1]!.2.1.toNat, bs[p.1]!.1.toNat, p.2 * m - bs[p.1]!.2.2.1, .tup [.str "low", .int (p.1 : Nat)])]
def wid (m : Int) (n i : Nat) : List Ln := ((List.range n).filter fun j => decide (j ≠ i)).map fun j => (i, j, m - 1, .tup [.str "wide", .int (i : Nat), .int (j : Nat)])
def LNK (m : Int) (n : Nat) (bs : List Bd) (t : Tld) : List Ln := t.flatMap (l2 m bs) ++ (List.range n).flatMap (wid m n)
/-- told turns that make sense -/
structure TdOk (bs : List Bd) (t : Tld) : Prop where
  lt : ∀ p ∈ t, p.1 < bs.length
  nd : (t.map (·.1)).Nodup
  sm : ∀ p ∈ t, -1000 ≤ p.2 ∧ p.2 ≤ 1000
theorem bd_at {bs : List Bd} {k : Nat} (h : k < bs.length) : bs[k]! ∈ bs := by
  rw [show bs[k]! = bs[k] by simp [h]]
  exact List.getElem_mem h
theorem TdOk.len {bs : List Bd} {t : Tld} (h : TdOk bs t) : t.length ≤ bs.length := by
  have := List.Nodup.length_le_of_subset h.nd (l₂ := List.range bs.length) (fun x hx => by
    obtain ⟨p, hp, rfl⟩ := List.mem_map.mp hx
    exact List.mem_range.mpr (h.lt p hp))
  simpa using this
def wT (i : Nat) (d : D) : Bool := match d with
  | .int j => decide (j ≠ (i : Int))
  | _ => false
def wF (m : Int) (i : Nat) (d : D) : D := match d with
  | .int j => .tup [.int (i : Nat), .int j, .int (m - 1), .tup [.str "wide", .int (i : Nat), .int j]]
  | d => d
def InvT (m : Int) (n : Nat) (bs : List Bd) (t : Tld) (ds : List D) (S : Fs) : Prop := ∃ (acc rest : Tld) (s5 s6 s7 s8 s9 s10 : SV), S = [.va (.int m), .va (.int n), .va (dBs bs), .va (dTd t), .ow none (.lst ((acc.flatMap (l2 m bs)).map dLn)), s5, s6, s7, s8, s9, s10] ∧ ds = rest.map (fun p => .tup [.int (p.1 : Nat), .int p.2]) ∧ t = acc ++ rest
def InvW2 (m : Int) (n : Nat) (bs : List Bd) (t : Tld) (ds : List D) (S : Fs) : Prop := ∃ (i k : Nat) (s5 s6 s7 s8 s9 s10 : SV), S = [.va (.int m), .va (.int n), .va (dBs bs), .va (dTd t), .ow none (.lst ((t.flatMap (l2 m bs) ++ (List.range i).flatMap (wid m n)).map dLn)), s5, s6, s7, s8, s9, s10] ∧ ds = rangeD i k ∧ i + k = n
theorem fm_len {m : Int} {bs : List Bd} : ∀ {t : Tld}, (t.flatMap (l2 m bs)).length = 2 * t.length
  | [] => rfl
  | p :: t => by rw [List.flatMap_cons, List.length_append, fm_len, List.length_cons]; simp [l2]; omega
theorem wid_len {m : Int} {n : Nat} : ∀ (i : Nat), ((List.range i).flatMap (wid m n)).length ≤ n * i
  | 0 => by simp
  | i + 1 => by
    have := wid_len (m := m) (n := n) i
    rw [List.range_succ, List.flatMap_append, List.length_append, Nat.mul_succ]
    have : (wid m n i).length ≤ n := by
      unfold wid
      rw [List.length_map]
      exact Nat.le_trans (List.length_filter_le _ _) (by simp)
    rw [show [i].flatMap (wid m n) = wid m n i by simp only [List.flatMap_cons, List.flatMap_nil, List.append_nil]]
    omega
theorem links_ok {m : Int} {n : Nat} {bs : List Bd} {t : Tld} (hm : 2 ≤ m ∧ m ≤ 60) (hn : 1 ≤ n ∧ n ≤ 6) (hb : ∀ b ∈ bs, BdOk n b) (hl : bs.length ≤ 10) (ht : TdOk bs t) : Fv F_links_of [.int m, .int n, dBs bs, dTd t] = .ok (.lst ((LNK m n bs t).map dLn)) := by
  refine Fv_of ?_
  unfold f_links_of
  have tl := ht.len
  simp [fLstO, dTd]
  refine okO.for (InvT m n bs t) ?_ ?_ _ _ ⟨[], t, _, _, _, _, _, _, by simp [dTd] <;> exact ⟨rfl, rfl, rfl, rfl, rfl, rfl⟩, rfl, rfl⟩
  · rintro d ds S ⟨acc, rest, s5, s6, s7, s8, s9, s10, rfl, e, et⟩
    cases rest with
    | nil => cases e
    | cons p rest =>
      cases e
      have pm : p ∈ t := by rw [et]; exact List.mem_append_right _ List.mem_cons_self
      have pl := ht.lt p pm
      have bo := hb _ (bd_at pl)
      have ib := at_nat (f := dB) (ax := bs) pl
      have al : acc.length ≤ 10 := by have := congrArg List.length et; rw [List.length_append] at this; omega
      have fl := fm_len (m := m) (bs := bs) (t := acc)
      have zm : fMul (.int p.2) (.int m) Mn = some (.int (p.2 * m)) := by
        rw [z_mul, show small m = true by simp only [small, Bool.and_eq_true, decide_eq_true_eq]; omega, Bool.or_true, if_pos rfl]
      have nx : ∀ s5 s6 s7 s8 s9 s10, InvT m n bs t (rest.map fun p => .tup [.int (p.1 : Nat), .int p.2]) [.va (.int m), .va (.int n), .va (dBs bs), .va (dTd t), .ow none (.lst (((acc ++ [p]).flatMap (l2 m bs)).map dLn)), s5, s6, s7, s8, s9, s10] := fun s5 s6 s7 s8 s9 s10 => ⟨acc ++ [p], rest, s5, s6, s7, s8, s9, s10, rfl, rfl, by rw [et]; simp⟩
      have en : ((acc ++ [p]).flatMap (l2 m bs)).map dLn = (acc.flatMap (l2 m bs)).map dLn ++ [.tup [.int bs[p.1]!.1, .int bs[p.1]!.2.1, .int (bs[p.1]!.2.2.2 - p.2 * m), .tup [.str "high", .int (p.1 : Nat)]], .tup [.int bs[p.1]!.2.1, .int bs[p.1]!.1, .int (p.2 * m - bs[p.1]!.2.2.1), .tup [.str "low", .int (p.1 : Nat)]]] := by
        rw [List.flatMap_append, List.map_append]
        congr 1
        have a1 := bo.1
        have a2 := bo.2.1
        simp only [List.flatMap_cons, List.flatMap_nil, List.append_nil, l2, List.map_cons, List.map_nil, dLn]
        rw [show ((bs[p.1]!.1.toNat : Nat) : Int) = bs[p.1]!.1 by omega, show ((bs[p.1]!.2.1.toNat : Nat) : Int) = bs[p.1]!.2.1 by omega]
      rw [en] at nx
      have gl : ((acc.flatMap (l2 m bs)).map dLn).length ≤ 20 := by rw [List.length_map, fl]; omega
      generalize (acc.flatMap (l2 m bs)).map dLn = ga at nx gl ⊢
      simp [dBs, ib, -List.getElem!_eq_getElem?_getD]
      simp [dB, zm, show ga.length < 16777216 by omega, show ga.length + 1 < 16777216 by omega, -List.getElem!_eq_getElem?_getD]
      exact nx _ _ _ _ _ _
  · rintro S ⟨acc, rest, s5, s6, s7, s8, s9, s10, rfl, e, et⟩
    cases rest with
    | cons p rest => cases e
    | nil =>
      rw [List.append_nil] at et
      subst et
      simp [show (-4000000000000000000 : Int) ≤ n ∧ (n : Int) ≤ 16777216 by omega]
      refine okO.for (InvW2 m n bs t) ?_ ?_ _ _ ⟨0, n, _, _, _, _, _, _, by simp <;> exact ⟨rfl, rfl, rfl, rfl, rfl, rfl⟩, by simp, by omega⟩
      · rintro d ds S ⟨i, k, s5, s6, s7, s8, s9, s10, rfl, e, hi⟩
        obtain ⟨rfl, k, rfl, rfl⟩ := rangeD_cons e.symm
        have nx : ∀ s5 s6 s7 s8 s9 s10, InvW2 m n bs t (rangeD ((i : Int) + 1) k) [.va (.int m), .va (.int n), .va (dBs bs), .va (dTd t), .ow none (.lst ((t.flatMap (l2 m bs) ++ (List.range i).flatMap (wid m n)).map dLn ++ (wid m n i).map dLn)), s5, s6, s7, s8, s9, s10] := fun s5 s6 s7 s8 s9 s10 => ⟨i + 1, k, s5, s6, s7, s8, s9, s10, by rw [List.range_succ, List.flatMap_append, ← List.append_assoc, List.map_append (l₂ := [i].flatMap (wid m n))]; simp only [List.flatMap_cons, List.flatMap_nil, List.append_nil], by simp, by omega⟩
        have gl : ((t.flatMap (l2 m bs) ++ (List.range i).flatMap (wid m n)).map dLn).length ≤ 1000 := by
          have a := fm_len (m := m) (bs := bs) (t := t)
          have b := wid_len (m := m) (n := n) i
          have c := Nat.mul_le_mul (show n ≤ 6 by omega) (show i ≤ 6 by omega)
          rw [List.length_map, List.length_append, a]
          omega
        have wl : ((wid m n i).map dLn).length ≤ 1000 := by
          unfold wid
          rw [List.length_map, List.length_map]
          exact Nat.le_trans (List.length_filter_le _ _) (by simp; omega)
        have ew : ((rangeD 0 n).filter (wT i)).map (wF m i) = (wid m n i).map dLn := by
          unfold wid rangeD
          rw [List.filter_map, List.map_map, List.map_map]
          have ef : ((List.range n).filter (wT i ∘ fun (k : Nat) => D.int (0 + (k : Int)))) = (List.range n).filter fun j => decide (j ≠ i) := by
            refine List.filter_congr fun j _ => ?_
            simp only [Function.comp, wT]
            rw [decide_eq_decide]
            omega
          rw [ef]
          exact List.map_congr_left fun j _ => by simp [dLn, wF]
        generalize (t.flatMap (l2 m bs) ++ (List.range i).flatMap (wid m n)).map dLn = ga at nx gl ⊢
        simp [show (-4000000000000000000 : Int) ≤ n ∧ (n : Int) ≤ 16777216 by omega]
        rw [compRF (wF m i) (wT i) (by
          rintro d hd
          unfold rangeD at hd
          obtain ⟨j, hj, rfl⟩ := List.mem_map.mp hd
          exact ⟨_, rfl, by simp [wT], fun _ => by simp [wF], by simp⟩), ew]
        generalize (wid m n i).map dLn = gw at nx wl ⊢
        simp [show ga.length + gw.length ≤ 16777216 by omega]
        exact nx _ _ _ _ _ _
      · rintro S ⟨i, k, s5, s6, s7, s8, s9, s10, rfl, e, hi⟩
        have := rangeD_nil e
        subst this
        have : i = n := by omega
        subst this
        simp
        unfold LNK
        rw [List.map_append]
end K53

namespace K53
open PySem PySem.Spec PyProof.Rows L2 DL
def inR (a n : Int) : List Int := (List.range (n - a).toNat).map fun (k : Nat) => a + k
theorem inR_D {a n : Int} : rangeD a (n - a).toNat = (inR a n).map D.int := by
  unfold inR rangeD
  rw [List.map_map]
  rfl
theorem inR_mem {a n x : Int} : x ∈ inR a n ↔ a ≤ x ∧ x < n := by
  unfold inR
  constructor
  · intro h
    obtain ⟨k, hk, rfl⟩ := List.mem_map.mp h
    have := List.mem_range.mp hk
    omega
  · intro h
    exact List.mem_map.mpr ⟨(x - a).toNat, List.mem_range.mpr (by omega), by omega⟩
theorem inR_len {a n : Int} : (inR a n).length = (n - a).toNat := by unfold inR; simp
def tlo (m : Int) (b : Bd) : Int := 0 - (m - 1 - b.2.2.1) / m
def thi (m : Int) (b : Bd) : Int := (b.2.2.2 + m - 1) / m + 1
def PT (m : Int) (b : Bd) : List Int := inR (tlo m b) (thi m b)
theorem div_in {p g : Int} (hg : 0 < g) : (p / g) * g ≤ p ∧ p < (p / g + 1) * g := by
  have a := Int.mul_ediv_add_emod p g
  have b := Int.emod_nonneg p (by omega : g ≠ 0)
  have c := Int.emod_lt_of_pos p hg
  rw [Int.add_mul, Int.mul_comm (p / g) g]
  omega
theorem PT_in {m n : Int} {b : Bd} (hm : 2 ≤ m ∧ m ≤ 60) (hb : BdOk n b) : -1000 ≤ tlo m b ∧ tlo m b ≤ 1000 ∧ -1000 ≤ thi m b ∧ thi m b ≤ 1000 := by
  obtain ⟨_, _, _, h1, h2, h3⟩ := hb
  unfold tlo thi
  have a1 : -200 ≤ (m - 1 - b.2.2.1) / m := Int.le_ediv_of_mul_le (by omega) (by omega)
  have a2 : (m - 1 - b.2.2.1) / m < 1 := Int.ediv_lt_of_lt_mul (by omega) (by omega)
  have a3 : 0 ≤ (b.2.2.2 + m - 1) / m := Int.ediv_nonneg (by omega) (by omega)
  have a4 : (b.2.2.2 + m - 1) / m < 201 := Int.ediv_lt_of_lt_mul (by omega) (by omega)
  omega
theorem PT_len {m n : Int} {b : Bd} (hm : 2 ≤ m ∧ m ≤ 60) (hb : BdOk n b) (hn : b.2.2.2 - b.2.2.1 < m - 1) : (PT m b).length ≤ 3 := by
  unfold PT
  rw [inR_len]
  unfold tlo thi
  have d1 := (div_in (p := m - 1 - b.2.2.1) (g := m) (by omega)).1
  have d2 := (div_in (p := b.2.2.2 + m - 1) (g := m) (by omega)).1
  have : ((m - 1 - b.2.2.1) / m + (b.2.2.2 + m - 1) / m) * m < 3 * m := by rw [Int.add_mul]; omega
  have := Int.lt_of_mul_lt_mul_right this (by omega)
  omega
theorem PT_mem {m : Int} {b : Bd} {a k : Int} (hm : 2 ≤ m) (a0 : -m < a) (a1 : a < m) (h1 : b.2.2.1 ≤ a + k * m) (h2 : a + k * m ≤ b.2.2.2) : k ∈ PT m b := by
  refine inR_mem.mpr ⟨?_, ?_⟩
  · unfold tlo
    have d1 := (div_in (p := m - 1 - b.2.2.1) (g := m) (by omega)).2
    -- -k ≤ (m - 1 - low) / m
    have : (0 - k) * m < ((m - 1 - b.2.2.1) / m + 1) * m := by rw [Int.sub_mul]; omega
    have := Int.lt_of_mul_lt_mul_right this (by omega)
    omega
  · unfold thi
    have d2 := (div_in (p := b.2.2.2 + m - 1) (g := m) (by omega)).2
    have : k * m < ((b.2.2.2 + m - 1) / m + 1) * m := by omega
    have := Int.lt_of_mul_lt_mul_right this (by omega)
    omega
theorem turns_ok {m n : Int} {b : Bd} (hm : 2 ≤ m ∧ m ≤ 60) (hb : BdOk n b) : Fv F_possible_turns [.int m, dB b] = .ok (.lst ((PT m b).map D.int)) := by
  refine Fv_of ?_
  unfold f_possible_turns
  have pi := PT_in hm hb
  have z1 := z_div (i := m - 1 - b.2.2.1) (j := m) (M := Mn) (by omega) (by omega)
  have z2 := z_div (i := b.2.2.2 + m - 1) (j := m) (M := Mn) (by omega) (by omega)
  simp [dB, z1, fRgL, fRgO, z2, rgBD]
  unfold tlo thi at pi
  rw [if_pos ⟨by omega, by omega, by omega, by omega, by omega⟩]
  simp
  have q := inR_D (a := tlo m b) (n := thi m b)
  unfold PT
  rw [← q]
  unfold tlo thi
  rw [show (-((m - 1 - b.2.2.1) / m)) = 0 - (m - 1 - b.2.2.1) / m by omega, show (b.2.2.2 + m - 1) / m + 1 + (m - 1 - b.2.2.1) / m = (b.2.2.2 + m - 1) / m + 1 - (0 - (m - 1 - b.2.2.1) / m) by omega]
/-! the next bound -/
def nbB (m : Int) (bs : List Bd) (t : Tld) (k : Nat) : Bool := !(t.map (·.1)).contains k && decide (bs[k]!.2.2.2 - bs[k]!.2.2.1 < m - 1)
def NB (m : Int) (bs : List Bd) (t : Tld) : Option Nat := (List.range bs.length).find? (nbB m bs t)
def InvN (m : Int) (bs : List Bd) (t : Tld) (kn : List Int) (r : Option Nat) (ds : List D) (S : Fs) : Prop := ∃ (k : Nat) (s4 s5 s6 : SV), S = [.va (.int m), .va (dBs bs), .va (dTd t), .va (.lst (kn.map D.int)), s4, s5, s6] ∧ ds = enumD k ((bs.drop k).map dB) ∧ k ≤ bs.length ∧ (List.range' k (bs.length - k)).find? (nbB m bs t) = r
theorem enum_cons {α : Type} {f : α → D} {l : List α} {k : Nat} {d : D} {ds : List D} (h : enumD k (l.map f) = d :: ds) : ∃ x r, l = x :: r ∧ d = .tup [.int (k : Nat), f x] ∧ ds = enumD (k + 1) (r.map f) := by
  cases l with
  | nil => simp [enumD] at h
  | cons x r =>
    simp only [List.map_cons, enumD, List.cons.injEq] at h
    exact ⟨x, r, rfl, h.1.symm, h.2.symm⟩
theorem drop_cons {α : Type} [Inhabited α] {l r : List α} {x : α} {k : Nat} (h : l.drop k = x :: r) : k < l.length ∧ l[k]! = x ∧ l.drop (k + 1) = r := by
  have hk : k < l.length := by
    rcases Nat.lt_or_ge k l.length with h1 | h1
    · exact h1
    · rw [List.drop_eq_nil_of_le h1] at h; cases h
  rw [List.drop_eq_getElem_cons hk] at h
  simp only [List.cons.injEq] at h
  exact ⟨hk, by simp [hk, h.1], h.2⟩
theorem next_ok {m : Int} {bs : List Bd} {t : Tld} : Fv F_next_bound [.int m, dBs bs, dTd t] = .ok (dLa (NB m bs t)) := by
  refine Fv_of ?_
  unfold f_next_bound
  generalize er : NB m bs t = r
  simp [dTd]
  rw [compR (fun d => match d with | .tup [.int k, .int _] => .int k | d => d) (by
    rintro d hd
    obtain ⟨p, _, rfl⟩ := List.mem_map.mp hd
    exact ⟨_, rfl, by simp, by simp⟩)]
  have em : (t.map fun p => D.tup [.int (p.1 : Nat), .int p.2]).map (fun d => match d with | .tup [.int k, .int _] => .int k | d => d) = (t.map fun p => (p.1 : Int)).map D.int := by
    rw [List.map_map, List.map_map]
    exact List.map_congr_left fun p _ => rfl
  rw [em]
  have kc : ∀ k : Nat, ((k : Int) ∈ (t.map fun p => (p.1 : Int))) ↔ (t.map (·.1)).contains k = true := fun k => by
    rw [List.contains_iff_mem, List.mem_map, List.mem_map]
    exact ⟨fun ⟨p, hp, e⟩ => ⟨p, hp, by omega⟩, fun ⟨p, hp, e⟩ => ⟨p, hp, by omega⟩⟩
  generalize (t.map fun p => (p.1 : Int)) = kn at kc ⊢
  simp [dBs]
  refine okO.for (InvN m bs t kn r) ?_ ?_ _ _ ⟨0, .no, .no, .no, by simp [dTd, dBs], by simp [dBs], Nat.zero_le _, by rw [← er]; simp [NB, List.range_eq_range']⟩
  · rintro d ds S ⟨k, s4, s5, s6, rfl, e, hk, hf⟩
    obtain ⟨b, rest, er, rfl, rfl⟩ := enum_cons e.symm
    obtain ⟨k1, k2, k3⟩ := drop_cons er
    have nx : nbB m bs t k = false → ∀ s4 s5 s6, InvN m bs t kn r (enumD (k + 1) (rest.map dB)) [.va (.int m), .va (dBs bs), .va (dTd t), .va (.lst (kn.map D.int)), s4, s5, s6] := fun hz s4 s5 s6 => ⟨k + 1, s4, s5, s6, rfl, by rw [k3], by omega, by
      rw [show bs.length - k = (bs.length - (k + 1)) + 1 by omega, List.range'_succ, List.find?_cons, hz] at hf
      exact hf⟩
    have ni : fNotIn (.int (k : Nat)) (.lst (kn.map D.int)) Mn = some (.bl (!(t.map (·.1)).contains k)) := by
      have e1 : items Mn (.lst (kn.map D.int)) = some (kn.map D.int) := rfl
      have ea : ((kn.map D.int).any fun z => deq z (.int (k : Nat))) = (t.map (·.1)).contains k := by
        rw [Bool.eq_iff_iff, ← kc k, List.any_map, List.any_eq_true]
        constructor
        · rintro ⟨x, hx, q⟩
          have : x = (k : Int) := by simpa [deq] using q
          exact this ▸ hx
        · intro hx
          exact ⟨_, hx, by simp [deq]⟩
      simp only [fNotIn, e1, Option.bind_some, deref, ea]
      exact if_pos ⟨by simp, by simp⟩
    have k4 : nbB m bs t k = (!(t.map (·.1)).contains k && decide (b.2.2.2 - b.2.2.1 < m - 1)) := by unfold nbB; rw [k2]
    cases h1 : (t.map (·.1)).contains k with
    | true =>
      rw [h1] at ni k4
      simp [ni]
      exact nx (by rw [k4]; rfl) _ _ _
    | false =>
      rw [h1] at ni k4
      by_cases h2 : b.2.2.2 - b.2.2.1 < m - 1
      · have hz : nbB m bs t k = true := by rw [k4]; simp [h2]
        rw [show bs.length - k = (bs.length - (k + 1)) + 1 by omega, List.range'_succ, List.find?_cons, hz] at hf
        simp [ni, dB, h2]
        rw [← hf]
        rfl
      · simp [ni, dB, h2]
        exact nx (by rw [k4]; simp [h2]) _ _ _
  · rintro S ⟨k, s4, s5, s6, rfl, e, hk, hf⟩
    have : k = bs.length := by
      rcases Nat.lt_or_ge k bs.length with h1 | h1
      · rw [List.drop_eq_getElem_cons h1] at e
        simp only [List.map_cons, enumD] at e
        cases e
      · omega
    rw [this, Nat.sub_self] at hf
    simp at hf
    simp [← hf, dLa]
/-! trees -/
instance : Inhabited D := ⟨.non⟩
def NoteOk (N : Nat) (d : D) : Prop := (∃ x, d = .tup [x]) ∨ ∃ (k : Int) (is : List Nat), d = .tup [.int k, .lst (is.map fun (i : Nat) => D.int i)] ∧ (∀ i ∈ is, i < N) ∧ is.length ≤ 1000
def InvPt (ns : List D) (N : Nat) (ds : List D) (S : Fs) : Prop := ∃ (k : Nat) (tr : List D) (s2 s3 s4 : SV), S = [.va (.lst ns), .ow none (.lst tr), s2, s3, s4] ∧ tr.length = N ∧ k ≤ N ∧ ds = rangeC ((k : Int) - 1) (-1) k
theorem rangeC_cons {a : Int} {n : Nat} {d : D} {ds : List D} (h : rangeC a (-1) n = d :: ds) : d = .int a ∧ ∃ m, n = m + 1 ∧ ds = rangeC (a - 1) (-1) m := by
  cases n with
  | zero => simp [rangeC] at h
  | succ m =>
    have e : rangeC a (-1) (m + 1) = .int a :: rangeC (a - 1) (-1) m := by
      unfold rangeC
      rw [List.range_succ_eq_map, List.map_cons, List.map_map]
      refine congr (congrArg _ (by simp)) (List.map_congr_left fun k _ => ?_)
      simp
      omega
    rw [e] at h
    cases h
    exact ⟨rfl, m, rfl, rfl⟩
theorem put_ok {ns : List D} {N : Nat} (hN : ns.length = N) (h1 : 1 ≤ N) (h2 : N ≤ 10000) (hn : ∀ d ∈ ns, NoteOk N d) : ∃ d, True ∧ Fv F_put_together [.lst ns] = .ok d := by
  refine Fv_ex (P := fun _ => True) ?_
  unfold f_put_together
  have ml : fMul (.lst [.non]) (.int N) Mn = some (.lst (List.replicate N .non)) := by
    rw [f_mulL, if_pos ⟨by omega, by omega, by simp; show _ ≤ 16777216; omega⟩]
    simp
  simp [fOpO, hN, show N ≤ 16777216 by omega, ml]
  rw [if_pos ⟨by omega, by omega, by omega⟩]
  simp only [okR_ok]
  refine okO.for (InvPt ns N) ?_ ?_ _ _ ⟨N, List.replicate N .non, .no, .no, .no, by simp, by simp, Nat.le_refl _, by simp⟩
  · rintro d ds S ⟨k, tr, s2, s3, s4, rfl, ht, hk, e⟩
    obtain ⟨rfl, k, rfl, rfl⟩ := rangeC_cons e.symm
    have kN : k < N := by omega
    have i1 : L2.atI ns (k : Int) = some ns[k]! := by rw [z_atN]; simp [hN, kN]
    have x1 := ixNat (m := tr.length) (k := k) (by omega)
    have no := hn ns[k]! (by rw [show ns[k]! = ns[k] by simp [hN, kN]]; exact List.getElem_mem _)
    have ek : ((k + 1 : Nat) : Int) - 1 = k := by omega
    have nx : ∀ d s2 s3 s4, InvPt ns N (rangeC ((k : Int) - 1) (-1) k) [.va (.lst ns), .ow none (.lst (tr.set k d)), s2, s3, s4] := fun d s2 s3 s4 => ⟨k, tr.set k d, s2, s3, s4, rfl, by simp [ht], by omega, rfl⟩
    rw [ek]
    rcases no with ⟨x, ex⟩ | ⟨q, is, ex, hi, hl⟩
    · simp [i1, ex, x1, -List.getElem!_eq_getElem?_getD]
      exact nx _ _ _ _
    · simp [i1, ex, x1, -List.getElem!_eq_getElem?_getD]
      rw [compR (fun d => match d with | .int j => tr[j.toNat]! | d => d) (by
        rintro d hd
        obtain ⟨j, hj, rfl⟩ := List.mem_map.mp hd
        have jl := hi j hj
        have i2 : L2.atI tr (j : Int) = some tr[j]! := by rw [z_atN]; simp [ht, jl]
        exact ⟨_, rfl, by simp [i2, -List.getElem!_eq_getElem?_getD], by simp⟩)]
      simp [x1]
      exact nx _ _ _ _
  · rintro S ⟨k, tr, s2, s3, s4, rfl, ht, hk, e⟩
    have i0 : L2.atI tr 0 = some tr[0]! := by
      have := z_atN tr 0
      rw [show ((0 : Nat) : Int) = 0 from rfl] at this
      rw [this]
      simp [show 0 < tr.length by omega]
    simp [i0]
end K53

namespace K53
open PySem PySem.Spec PyProof.Rows L2 DL
/-! times that keep all, plain -/
def apart (x : Nat → Int) (b : Bd) : Int := x b.2.1.toNat - x b.1.toNat
structure Sol (m : Int) (n : Nat) (bs : List Bd) (x : Nat → Int) : Prop where
  inn : ∀ i, i < n → 0 ≤ x i ∧ x i < m
  kep : ∀ b ∈ bs, ∃ k : Int, b.2.2.1 ≤ apart x b + k * m ∧ apart x b + k * m ≤ b.2.2.2
def Con (m : Int) (bs : List Bd) (x : Nat → Int) (t : Tld) : Prop := ∀ p ∈ t, bs[p.1]!.2.2.1 ≤ apart x bs[p.1]! + p.2 * m ∧ apart x bs[p.1]! + p.2 * m ≤ bs[p.1]!.2.2.2
theorem LNK_mem {m : Int} {n : Nat} {bs : List Bd} {t : Tld} {e : Ln} : e ∈ LNK m n bs t ↔ (∃ p ∈ t, e ∈ l2 m bs p) ∨ ∃ i j, i < n ∧ j < n ∧ j ≠ i ∧ e = (i, j, m - 1, .tup [.str "wide", .int (i : Nat), .int (j : Nat)]) := by
  unfold LNK
  rw [List.mem_append, List.mem_flatMap, List.mem_flatMap]
  refine or_congr Iff.rfl ⟨?_, ?_⟩
  · rintro ⟨i, hi, h⟩
    obtain ⟨j, hj, rfl⟩ := List.mem_map.mp h
    obtain ⟨h1, h2⟩ := List.mem_filter.mp hj
    exact ⟨i, j, List.mem_range.mp hi, List.mem_range.mp h1, of_decide_eq_true h2, rfl⟩
  · rintro ⟨i, j, hi, hj, ne, rfl⟩
    exact ⟨i, List.mem_range.mpr hi, List.mem_map.mpr ⟨j, List.mem_filter.mpr ⟨List.mem_range.mpr hj, decide_eq_true ne⟩, rfl⟩⟩
theorem LNK_ok {m : Int} {n : Nat} {bs : List Bd} {t : Tld} (hb : ∀ b ∈ bs, BdOk n b) (ht : TdOk bs t) : ∀ e ∈ LNK m n bs t, LnOk n e := by
  intro e he
  rcases LNK_mem.mp he with ⟨p, hp, h⟩ | ⟨i, j, hi, hj, ne, rfl⟩
  · obtain ⟨b1, b2, b3, _⟩ := hb _ (bd_at (ht.lt p hp))
    simp only [l2, List.mem_cons, List.not_mem_nil, or_false] at h
    rcases h with rfl | rfl
    · exact ⟨by show bs[p.1]!.1.toNat < n; omega, by show bs[p.1]!.2.1.toNat < n; omega, by show bs[p.1]!.1.toNat ≠ bs[p.1]!.2.1.toNat; omega⟩
    · exact ⟨by show bs[p.1]!.2.1.toNat < n; omega, by show bs[p.1]!.1.toNat < n; omega, by show bs[p.1]!.2.1.toNat ≠ bs[p.1]!.1.toNat; omega⟩
  · exact ⟨hi, hj, fun z => ne z.symm⟩
theorem con_feas {m : Int} {n : Nat} {bs : List Bd} {t : Tld} {x : Nat → Int} (hx : Sol m n bs x) (hc : Con m bs x t) : feas (LNK m n bs t) x := by
  intro e he
  rcases LNK_mem.mp he with ⟨p, hp, h⟩ | ⟨i, j, hi, hj, ne, rfl⟩
  · have q := hc p hp
    unfold apart at q
    simp only [l2, List.mem_cons, List.not_mem_nil, or_false] at h
    rcases h with rfl | rfl <;> (dsimp only; omega)
  · have a := hx.inn i hi
    have b := hx.inn j hj
    dsimp only
    omega
theorem wide_kept {m a lo hi : Int} (hm : 0 < m) (h : m - 1 ≤ hi - lo) : ∃ k : Int, lo ≤ a + k * m ∧ a + k * m ≤ hi := by
  refine ⟨0 - (a - lo) / m, ?_⟩
  obtain ⟨d1, d2⟩ := div_in (p := a - lo) (g := m) hm
  rw [Int.sub_mul]
  rw [Int.add_mul] at d2
  omega
theorem leaf {m : Int} {n : Nat} {bs : List Bd} {t : Tld} {ts : List Int} (hm : 2 ≤ m) (h1 : 1 ≤ n) (hb : ∀ b ∈ bs, BdOk n b) (ht : TdOk bs t) (hl : ts.length = n) (hv : ∀ e ∈ LNK m n bs t, ¬ viol ts e) (hn : NB m bs t = none) : ∃ x, Sol m n bs x := by
  have ne : ts ≠ [] := fun z => by rw [z] at hl; simp at hl; omega
  obtain ⟨s1, s2⟩ := minI_spec ne
  have at' : ∀ i, i < n → ts[i]! ∈ ts := fun i hi => by
    rw [show ts[i]! = ts[i] by simp [hl, hi]]
    exact List.getElem_mem _
  refine ⟨fun i => ts[i]! - minI ts, fun i hi => ?_, fun b hbm => ?_⟩
  · have a := s2 _ (at' i hi)
    refine ⟨by omega, ?_⟩
    obtain ⟨j, hj, ej⟩ := List.getElem_of_mem s1
    have ej' : ts[j]! = minI ts := by rw [← ej]; simp [hj]
    by_cases hij : i = j
    · subst hij; omega
    · have := hv (j, i, m - 1, .tup [.str "wide", .int (j : Nat), .int (i : Nat)]) (LNK_mem.mpr (.inr ⟨j, i, by omega, hi, hij, rfl⟩))
      unfold viol at this
      dsimp only at this
      omega
  · obtain ⟨k, hk, ek⟩ := List.getElem_of_mem hbm
    have ek' : bs[k]! = b := by rw [← ek]; simp [hk]
    have nb := List.find?_eq_none.mp hn k (List.mem_range.mpr hk)
    unfold nbB at nb
    rw [ek'] at nb
    simp only [Bool.and_eq_true, Bool.not_eq_true', decide_eq_true_eq, not_and] at nb
    by_cases hin : (t.map (·.1)).contains k = true
    · rw [List.contains_iff_mem, List.mem_map] at hin
      obtain ⟨p, hp, rfl⟩ := hin
      have v1 := hv _ (LNK_mem.mpr (.inl ⟨p, hp, List.mem_cons_self⟩))
      have v2 := hv _ (LNK_mem.mpr (.inl ⟨p, hp, List.mem_cons_of_mem _ List.mem_cons_self⟩))
      unfold viol at v1 v2
      dsimp only at v1 v2
      rw [ek'] at v1 v2
      refine ⟨p.2, ?_⟩
      unfold apart
      dsimp only
      omega
    · simp only [Bool.not_eq_true] at hin
      have := nb hin
      exact wide_kept (by omega) (by omega)
/-! the search, plain -/
def cap : Nat → Nat
  | 0 => 0
  | k + 1 => 3 * (1 + cap k)
theorem cap_mono : ∀ {a b : Nat}, a ≤ b → cap a ≤ cap b
  | 0, b, _ => Nat.zero_le _
  | a + 1, 0, h => by omega
  | a + 1, b + 1, h => by
    have := cap_mono (a := a) (b := b) (by omega)
    simp only [cap]
    omega
def rem (bs : List Bd) (br : List Tld) (p : Nat) : Nat := bs.length - (br[p]!).length
def capS (bs : List Bd) (br : List Tld) (wa : List Nat) : Nat := (wa.map fun p => cap (rem bs br p)).sum
structure RT (m : Int) (n : Nat) (bs : List Bd) (notes : List D) (br : List Tld) (wa : List Nat) : Prop where
  ln : notes.length = br.length
  n1 : 1 ≤ br.length
  wl : ∀ p ∈ wa, p < br.length
  nt : ∀ p, p < br.length → p ∈ wa ∨ NoteOk br.length notes[p]!
  td : ∀ p, p < br.length → TdOk bs br[p]!
  cv : ∀ x, Sol m n bs x → ∃ p ∈ wa, Con m bs x br[p]!
  ct : br.length + capS bs br wa ≤ 364
  wn : wa.length ≤ br.length
theorem RT.start {m : Int} {n : Nat} {bs : List Bd} (hl : bs.length ≤ 5) : RT m n bs [.non] [[]] [0] := by
  refine ⟨rfl, Nat.le_refl _, by simp, fun p hp => .inl (by simp at hp ⊢; exact hp), fun p hp => ?_, fun x _ => ⟨0, by simp, by simp [Con]⟩, ?_, ?_⟩
  · have : p = 0 := by simpa using hp
    subst this
    exact ⟨by simp, by simp, by simp⟩
  · have : cap bs.length ≤ cap 5 := cap_mono hl
    have c5 : cap 5 = 363 := by decide
    simp [capS, rem]
    omega
  · exact Nat.le_refl _
theorem capS_app {bs : List Bd} {br : List Tld} {a b : List Nat} : capS bs br (a ++ b) = capS bs br a + capS bs br b := by unfold capS; rw [List.map_append, List.sum_append]
theorem noteOk_mono {N M : Nat} {d : D} (h : N ≤ M) (q : NoteOk N d) : NoteOk M d := by
  rcases q with q | ⟨k, is, e, h1, h2⟩
  · exact .inl q
  · exact .inr ⟨k, is, e, fun i hi => Nat.lt_of_lt_of_le (h1 i hi) h, h2⟩
/-- a branch that a ring bars -/
theorem RT.ring {m : Int} {n : Nat} {bs : List Bd} {notes : List D} {br : List Tld} {wa : List Nat} {p : Nat} (h : RT m n bs notes br (wa ++ [p])) (r : D) (no : ∀ x, Sol m n bs x → ¬ Con m bs x br[p]!) : RT m n bs (notes.set p (.tup [r])) br wa := by
  have pl := h.wl p (by simp)
  refine ⟨by simp [h.ln], h.n1, fun q hq => h.wl q (List.mem_append_left _ hq), fun q hq => ?_, h.td, fun x hx => ?_, ?_, by have := h.wn; rw [List.length_append] at this; simp at this; omega⟩
  · rw [get_set (by rw [h.ln]; exact pl)]
    by_cases e : q = p
    · rw [if_pos e]; exact .inr (.inl ⟨r, rfl⟩)
    · rw [if_neg e]
      rcases h.nt q hq with z | z
      · rcases List.mem_append.mp z with z | z
        · exact .inl z
        · exact absurd (List.mem_singleton.mp z) e
      · exact .inr z
  · obtain ⟨q, hq, hc⟩ := h.cv x hx
    rcases List.mem_append.mp hq with hq | hq
    · exact ⟨q, hq, hc⟩
    · rw [List.mem_singleton.mp hq] at hc
      exact absurd hc (no x hx)
  · have := h.ct
    rw [capS_app] at this
    omega
theorem find_some {m : Int} {bs : List Bd} {t : Tld} {k : Nat} (h : NB m bs t = some k) : k < bs.length ∧ k ∉ t.map (·.1) ∧ bs[k]!.2.2.2 - bs[k]!.2.2.1 < m - 1 := by
  have a := List.mem_of_find?_eq_some h
  have b := List.find?_some h
  unfold nbB at b
  simp only [Bool.and_eq_true, Bool.not_eq_true', decide_eq_true_eq] at b
  refine ⟨List.mem_range.mp a, fun z => ?_, b.2⟩
  rw [← List.contains_iff_mem] at z
  rw [z] at b
  cases b.1
def kids (br : List Tld) (t : Tld) (k : Nat) (ps : List Int) : List Tld := br ++ ps.map fun v => t ++ [(k, v)]
theorem kids_old {br : List Tld} {t : Tld} {k : Nat} {ps : List Int} {q : Nat} (h : q < br.length) : (kids br t k ps)[q]! = br[q]! := by
  unfold kids
  simp [List.getElem?_append, h]
theorem kids_new {br : List Tld} {t : Tld} {k : Nat} {ps : List Int} {q : Nat} (h : q < ps.length) : (kids br t k ps)[br.length + q]! = t ++ [(k, ps[q]!)] := by
  unfold kids
  simp [List.getElem?_append, h]
theorem kids_len {br : List Tld} {t : Tld} {k : Nat} {ps : List Int} : (kids br t k ps).length = br.length + ps.length := by simp [kids]
theorem TdOk.snoc {bs : List Bd} {t : Tld} {k : Nat} {v : Int} (h : TdOk bs t) (h1 : k < bs.length) (h2 : k ∉ t.map (·.1)) (h3 : -1000 ≤ v ∧ v ≤ 1000) : TdOk bs (t ++ [(k, v)]) := by
  refine ⟨fun p hp => ?_, ?_, fun p hp => ?_⟩
  · rcases List.mem_append.mp hp with hp | hp
    · exact h.lt p hp
    · rw [List.mem_singleton.mp hp]; exact h1
  · rw [List.map_append, List.nodup_append]
    refine ⟨h.nd, by simp, fun a ha b hb => ?_⟩
    simp at hb
    subst hb
    exact fun e => h2 (e ▸ ha)
  · rcases List.mem_append.mp hp with hp | hp
    · exact h.sm p hp
    · rw [List.mem_singleton.mp hp]; exact h3
/-- a branch goes on by the turns of a bound -/
theorem RT.turn {m : Int} {n : Nat} {bs : List Bd} {notes : List D} {br : List Tld} {wa : List Nat} {p k : Nat} (hm : 2 ≤ m ∧ m ≤ 60) (hb : ∀ b ∈ bs, BdOk n b) (h : RT m n bs notes br (wa ++ [p])) (hk : NB m bs br[p]! = some k) :
    RT m n bs (notes.set p (.tup [.int (k : Nat), .lst ((List.range' br.length (PT m bs[k]!).length).map fun (i : Nat) => D.int i)]) ++ List.replicate (PT m bs[k]!).length .non) (kids br br[p]! k (PT m bs[k]!)) (wa ++ (List.range' br.length (PT m bs[k]!).length).reverse) ∧
    capS bs (kids br br[p]! k (PT m bs[k]!)) (wa ++ (List.range' br.length (PT m bs[k]!).length).reverse) + (wa ++ (List.range' br.length (PT m bs[k]!).length).reverse).length < capS bs br (wa ++ [p]) + (wa ++ [p]).length := by
  obtain ⟨k1, k2, k3⟩ := find_some hk
  have bo := hb _ (bd_at k1)
  have pl := h.wl p (by simp)
  have tp := h.td p pl
  have c3 := PT_len hm bo k3
  have pin := PT_in hm bo
  generalize ePs : PT m bs[k]! = ps at *
  have psb : ∀ v ∈ ps, -1000 ≤ v ∧ v ≤ 1000 := fun v hv => by
    rw [← ePs] at hv
    have := inR_mem.mp hv
    omega
  have len1 : (br[p]!).length + 1 ≤ bs.length := by
    have := (tp.snoc (v := 0) k1 k2 (by omega)).len
    simpa using this
  have capR : ps.length * (1 + cap (bs.length - ((br[p]!).length + 1))) ≤ cap (rem bs br p) := by
    unfold rem
    obtain ⟨r, er⟩ : ∃ r, bs.length - (br[p]!).length = r + 1 := ⟨bs.length - (br[p]!).length - 1, by omega⟩
    rw [er, show bs.length - ((br[p]!).length + 1) = r by omega]
    simp only [cap]
    exact Nat.mul_le_mul_right _ c3
  have oldS : capS bs (kids br br[p]! k ps) wa = capS bs br wa := by
    unfold capS
    refine congrArg List.sum (List.map_congr_left fun q hq => ?_)
    unfold rem
    rw [kids_old (h.wl q (List.mem_append_left _ hq))]
  have newS : capS bs (kids br br[p]! k ps) (List.range' br.length ps.length).reverse = ps.length * cap (bs.length - ((br[p]!).length + 1)) := by
    have e : (List.range' br.length ps.length).reverse.map (fun q => cap (rem bs (kids br br[p]! k ps) q)) = List.replicate ps.length (cap (bs.length - ((br[p]!).length + 1))) := by
      rw [List.eq_replicate_iff]
      refine ⟨by simp, fun c hc => ?_⟩
      obtain ⟨q, hq, rfl⟩ := List.mem_map.mp hc
      rw [List.mem_reverse, List.mem_range'_1] at hq
      obtain ⟨j, rfl⟩ : ∃ j, q = br.length + j := ⟨q - br.length, by omega⟩
      unfold rem
      rw [kids_new (by omega)]
      simp
    unfold capS
    rw [e, List.sum_replicate_nat]
  have ct := h.ct
  rw [capS_app] at ct
  have p1 : capS bs br [p] = cap (rem bs br p) := by simp [capS]
  have mulE : ps.length * (1 + cap (bs.length - ((br[p]!).length + 1))) = ps.length + ps.length * cap (bs.length - ((br[p]!).length + 1)) := by rw [Nat.mul_add, Nat.mul_one]
  refine ⟨⟨by simp [h.ln, kids_len], by rw [kids_len]; have := h.n1; omega, fun q hq => ?_, fun q hq => ?_, fun q hq => ?_, fun x hx => ?_, ?_, by have := h.wn; rw [kids_len]; simp only [List.length_append, List.length_reverse, List.length_range', List.length_singleton] at this ⊢; omega⟩, ?_⟩
  · rw [kids_len]
    rcases List.mem_append.mp hq with hq | hq
    · have := h.wl q (List.mem_append_left _ hq); omega
    · rw [List.mem_reverse, List.mem_range'_1] at hq; omega
  · rw [kids_len] at hq ⊢
    by_cases hq2 : q < br.length
    · have g : (notes.set p (.tup [.int (k : Nat), .lst ((List.range' br.length ps.length).map fun (i : Nat) => D.int i)]) ++ List.replicate ps.length D.non)[q]! = (notes.set p (.tup [.int (k : Nat), .lst ((List.range' br.length ps.length).map fun (i : Nat) => D.int i)]))[q]! := by
        simp [List.getElem?_append, h.ln, hq2]
      rw [g, get_set (by rw [h.ln]; exact pl)]
      by_cases e : q = p
      · rw [if_pos e]
        exact .inr (.inr ⟨k, _, rfl, fun i hi => by rw [List.mem_range'_1] at hi; omega, by simp; omega⟩)
      · rw [if_neg e]
        rcases h.nt q hq2 with z | z
        · rcases List.mem_append.mp z with z | z
          · exact .inl (List.mem_append_left _ z)
          · exact absurd (List.mem_singleton.mp z) e
        · exact .inr (noteOk_mono (by omega) z)
    · exact .inl (List.mem_append_right _ (by rw [List.mem_reverse, List.mem_range'_1]; omega))
  · rw [kids_len] at hq
    by_cases hq2 : q < br.length
    · rw [kids_old hq2]; exact h.td q hq2
    · obtain ⟨j, rfl⟩ : ∃ j, q = br.length + j := ⟨q - br.length, by omega⟩
      rw [kids_new (by omega)]
      refine tp.snoc k1 k2 (psb _ ?_)
      rw [show ps[j]! = ps[j]'(by omega) by simp [show j < ps.length by omega]]
      exact List.getElem_mem _
  · obtain ⟨q, hq, hc⟩ := h.cv x hx
    rcases List.mem_append.mp hq with hq | hq
    · exact ⟨q, List.mem_append_left _ hq, by rw [kids_old (h.wl q (List.mem_append_left _ hq))]; exact hc⟩
    · rw [List.mem_singleton.mp hq] at hc
      obtain ⟨v, v1, v2⟩ := hx.kep _ (bd_at k1)
      have a1 := hx.inn bs[k]!.1.toNat (by have := bo.1; omega)
      have a2 := hx.inn bs[k]!.2.1.toNat (by have := bo.2.1; omega)
      have vm : v ∈ ps := by
        rw [← ePs]
        exact PT_mem hm.1 (by unfold apart; omega) (by unfold apart; omega) v1 v2
      obtain ⟨j, hj, ej⟩ := List.getElem_of_mem vm
      refine ⟨br.length + j, List.mem_append_right _ (by rw [List.mem_reverse, List.mem_range'_1]; omega), ?_⟩
      rw [kids_new hj, show ps[j]! = v by rw [← ej]; simp [hj]]
      intro q hq
      rcases List.mem_append.mp hq with hq | hq
      · exact hc q hq
      · rw [List.mem_singleton.mp hq]; exact ⟨v1, v2⟩
  · rw [kids_len, capS_app, oldS, newS]
    omega
  · rw [capS_app, oldS, newS, capS_app, p1]
    simp only [List.length_append, List.length_reverse, List.length_range', List.length_singleton]
    omega
end K53

namespace K53
open PySem PySem.Spec PyProof.Rows L2 DL
/-! raw_told, read -/
theorem numsI (l : List Int) : nums (l.map D.int) = some l := by simpa using nums_map id l
def RTP (m : Int) (n : Nat) (bs : List Bd) (d : D) : Prop := ∃ (w e : D), d = .tup [w, e] ∧ ((w = .str "times" ∧ ∃ x, Sol m n bs x) ∨ (w = .str "tree" ∧ ∀ x, ¬ Sol m n bs x))
def dNat (i : Nat) : D := .int (i : Nat)
def kidD (t : Tld) (k : Nat) (d : D) : D := match d with
  | .int v => .tup ((t.map fun p => D.tup [.int (p.1 : Nat), .int p.2]) ++ [.tup [.int (k : Nat), .int v]])
  | d => d
def InvR (m : Int) (n : Nat) (bs : List Bd) (k : Nat) (S : Fs) : Prop := ∃ (notes : List D) (br : List Tld) (wa : List Nat) (s6 s7 s8 s9 s10 s11 s12 : SV), S = [.va (.int m), .va (.int n), .va (dBs bs), .ow none (.lst notes), .ow none (.lst (br.map dTd)), .ow none (.lst (wa.map dNat)), s6, s7, s8, s9, s10, s11, s12, .no, .no] ∧ RT m n bs notes br wa ∧ k = capS bs br wa + wa.length
theorem raw_ok {m : Int} {n : Nat} {bs : List Bd} (hm : 2 ≤ m ∧ m ≤ 60) (hn : 1 ≤ n ∧ n ≤ 6) (hb : ∀ b ∈ bs, BdOk n b) (hl : bs.length ≤ 5) : ∃ d, RTP m n bs d ∧ Fv F_raw_told [.int m, .int n, dBs bs] = .ok d := by
  refine Fv_ex (P := RTP m n bs) ?_
  unfold f_raw_told
  simp [fNr, fLstO]
  refine okO.while (InvR m n bs) ?_ _ (capS bs [[]] [0] + 1) _ ⟨[.non], [[]], [0], _, _, _, _, _, _, _, by simp [dTd, dNat] <;> exact ⟨rfl, rfl, rfl, rfl, rfl, rfl, rfl⟩, RT.start hl, by simp⟩ (by
    have := (RT.start (m := m) (n := n) hl).ct
    exact Nat.lt_of_lt_of_le (show capS bs [[]] [0] + 1 < 1000 by omega) (by decide))
  rintro k S ⟨notes, br, wa, s6, s7, s8, s9, s10, s11, s12, rfl, h, rfl⟩
  have ct := h.ct
  have n1 := h.n1
  have wz : wa.length ≤ 10000 := by have := h.wn; omega
  simp [show wa.length ≤ 16777216 by omega]
  rcases List.eq_nil_or_concat wa with rfl | ⟨wa', p, rfl⟩
  · simp
    have hn : ∀ d ∈ notes, NoteOk br.length d := fun d hd => by
      obtain ⟨j, hj, e⟩ := List.getElem_of_mem hd
      rcases h.nt j (by rw [← h.ln]; exact hj) with z | z
      · cases z
      · rw [show notes[j]! = d by rw [← e]; simp [hj]] at z
        exact z
    obtain ⟨d, _, ep⟩ := put_ok h.ln n1 (by omega) hn
    simp [ep]
    exact ⟨_, _, rfl, .inr ⟨rfl, fun x hx => by obtain ⟨q, hq, _⟩ := h.cv x hx; cases hq⟩⟩
  · rw [List.concat_eq_append] at *
    have pl := h.wl p (by simp)
    have tp := h.td p pl
    have ib := at_nat (f := dTd) (ax := br) pl
    have lk := links_ok (t := br[p]!) hm hn hb (by omega) tp
    obtain ⟨d, hd, es⟩ := settled_ok (es := LNK m n bs br[p]!) hn.1 (by omega) (LNK_ok hb tp)
    have nb := next_ok (m := m) (bs := bs) (t := br[p]!)
    have x1 := ixNat (m := notes.length) (k := p) (by rw [h.ln]; exact pl)
    simp [dNat, ib, lk, es, nb, -List.getElem!_eq_getElem?_getD]
    rcases hd with ⟨ts, rfl, hl2, hv⟩ | ⟨r, rfl, no⟩
    · cases hnb : NB m bs br[p]! with
      | none =>
        rw [hnb] at nb
        have ne : ts ≠ [] := fun z => by rw [z] at hl2; simp at hl2; omega
        simp [nb, dLa, -List.getElem!_eq_getElem?_getD]
        rw [compR (fun d => match d with | .int v => .int (v - minI ts) | d => d) (by
          rintro d hd
          obtain ⟨v, _, rfl⟩ := List.mem_map.mp hd
          exact ⟨_, rfl, by simp [numsI, ne], by simp⟩)]
        simp
        exact ⟨_, _, rfl, .inl ⟨rfl, leaf hm.1 hn.1 hb tp hl2 hv hnb⟩⟩
      | some k =>
        rw [hnb] at nb
        obtain ⟨k1, k2, k3⟩ := find_some hnb
        have bo := hb _ (bd_at k1)
        have ik := at_nat (f := dB) (ax := bs) k1
        have tu := turns_ok hm bo
        obtain ⟨T1, T2⟩ := h.turn hm hb hnb
        have c3 := PT_len hm bo k3
        have tl := tp.len
        generalize PT m bs[k]! = ps at *
        have nl := h.ln
        have rg : rangeD (notes.length : Int) (notes.length + ps.length - notes.length : Int).toNat = (List.range' br.length ps.length).map dNat := by
          unfold rangeD
          rw [show ((notes.length : Int) + ps.length - notes.length).toNat = ps.length by omega, List.range'_eq_map_range, List.map_map, nl]
          exact List.map_congr_left fun j _ => by simp [dNat]
        have ml : fMul (.lst [.non]) (.int ps.length) Mn = some (.lst (List.replicate ps.length .non)) := by
          rw [f_mulL, if_pos ⟨by omega, by omega, by simp; show _ ≤ 16777216; omega⟩]
          simp
        simp [nb, dLa, -List.getElem!_eq_getElem?_getD]
        have ib2 : fIx (dBs bs) (.int (k : Nat)) Mn = some (dB bs[k]!) := by simp [dBs, ik, -List.getElem!_eq_getElem?_getD]
        have nz : notes.length ≤ 16777216 := by omega
        simp [ib2, tu, fRgL, fRgO, nz, show ps.length ≤ 16777216 by omega, rgBD, -List.getElem!_eq_getElem?_getD]
        rw [if_pos ⟨by omega, by omega, by omega⟩]
        simp only [R.opt, rg, R.bind_ok, okR_ok]
        generalize br[p]! = t at *
        generalize ek : kids br t k ps = br2 at T1 T2
        have ebr : br.map dTd ++ (ps.map D.int).map (kidD t k) = br2.map dTd := by
          rw [← ek]
          unfold kids
          rw [List.map_append, List.map_map, List.map_map]
          congr 1
          exact List.map_congr_left fun v _ => by simp [kidD, dTd]
        have bz : br.length + ps.length ≤ 16777216 := by omega
        have wz2 : wa'.length + ps.length ≤ 16777216 := by have := h.wn; rw [List.length_append] at this; omega
        simp [x1, show ps.length ≤ 16777216 by omega, ml]
        rw [if_pos (by omega)]
        simp
        rw [compR (kidD t k) (by
          rintro d hd
          obtain ⟨v, _, rfl⟩ := List.mem_map.mp hd
          exact ⟨_, rfl, by simp [kidD, dTd, show t.length + 1 ≤ 16777216 by omega], by simp⟩)]
        simp only [R.bind_ok]
        have kl : ((ps.map D.int).map (kidD t k)).length = ps.length := by simp
        generalize (ps.map D.int).map (kidD t k) = kd at ebr kl ⊢
        simp [kl, bz, wz2, nl]
        rw [if_neg (by omega)]
        rw [ebr, ← List.map_reverse, ← List.map_append]
        refine ⟨capS bs br2 (wa' ++ (List.range' br.length ps.length).reverse) + (wa' ++ (List.range' br.length ps.length).reverse).length, ?_, _, br2, wa' ++ (List.range' br.length ps.length).reverse, _, _, _, _, _, _, _, rfl, T1, rfl⟩
        simp only [List.length_append, List.length_singleton] at T2 ⊢
        exact T2
    · have R1 := h.ring (.tup r) fun x hx hc => no x (con_feas hx hc)
      simp [nb, x1, -List.getElem!_eq_getElem?_getD]
      refine ⟨capS bs br wa' + wa'.length, ?_, _, _, _, _, _, _, _, _, _, _, rfl, R1, rfl⟩
      rw [capS_app]
      omega
end K53

namespace K53
open PySem PySem.Spec PyProof.Rows L2 DL
/-! times told one by one, plain -/
theorem keep_iff {m : Int} {ts : List Int} {b : Bd} (hm : 0 < m) : keepB m ts b = true ↔ ∃ k : Int, b.2.2.1 ≤ (ts[b.2.1.toNat]! - ts[b.1.toNat]!) + k * m ∧ (ts[b.2.1.toNat]! - ts[b.1.toNat]!) + k * m ≤ b.2.2.2 := by
  unfold keepB tens
  rw [decide_eq_true_eq]
  generalize ts[b.2.1.toNat]! - ts[b.1.toNat]! = a
  constructor
  · intro h
    have e := Int.emod_add_mul_ediv (a - b.2.2.1) m
    have r0 := Int.emod_nonneg (a - b.2.2.1) (show m ≠ 0 by omega)
    generalize (a - b.2.2.1) / m = q at e
    refine ⟨-q, ?_⟩
    have : a + (-q) * m = b.2.2.1 + (a - b.2.2.1) % m := by rw [Int.neg_mul]; rw [Int.mul_comm] at e; omega
    omega
  · rintro ⟨k, h2, h3⟩
    have e : (a - b.2.2.1) % m = (a + k * m - b.2.2.1) % m := by
      rw [show a + k * m - b.2.2.1 = (a - b.2.2.1) + k * m by omega, Int.add_mul_emod_self_right]
    have : (a + k * m - b.2.2.1) % m ≤ a + k * m - b.2.2.1 := by
      have := Int.emod_add_mul_ediv (a + k * m - b.2.2.1) m
      have q : 0 ≤ (a + k * m - b.2.2.1) / m := Int.ediv_nonneg (by omega) (by omega)
      have q2 : 0 ≤ m * ((a + k * m - b.2.2.1) / m) := Int.mul_nonneg (by omega) q
      omega
    omega
def snocs (m : Int) (r : List Int) : List (List Int) := (inR 0 m).map fun t => r ++ [t]
def AT (m : Int) : Nat → List (List Int)
  | 0 => [[0]]
  | k + 1 => (AT m k).flatMap (snocs m)
structure RowT (m : Int) (k : Nat) (r : List Int) : Prop where
  hl : r.length = k + 1
  h0 : r[0]! = 0
  hr : ∀ t ∈ r, 0 ≤ t ∧ t < m
theorem AT_ok {m : Int} (hm : 0 < m) : ∀ (k : Nat) (r : List Int), r ∈ AT m k → RowT m k r
  | 0, r, h => by
    simp only [AT, List.mem_singleton] at h
    subst h
    exact ⟨rfl, rfl, fun t ht => by simp at ht; omega⟩
  | k + 1, r, h => by
    obtain ⟨q, hq, h⟩ := List.mem_flatMap.mp h
    obtain ⟨t, ht, rfl⟩ := List.mem_map.mp h
    have p := AT_ok hm k q hq
    have := inR_mem.mp ht
    refine ⟨by simp [p.hl], ?_, fun u hu => ?_⟩
    · have z := p.h0
      have l := p.hl
      cases q with
      | nil => simp at l
      | cons x q => simpa using z
    · rcases List.mem_append.mp hu with hu | hu
      · exact p.hr u hu
      · simp at hu; omega
theorem AT_mem {m : Int} : ∀ (k : Nat) (r : List Int), RowT m k r → r ∈ AT m k
  | 0, r, h => by
    have l := h.hl
    have z := h.h0
    match r, l, z with
    | [x], _, z => simp at z; simp [AT, z]
  | k + 1, r, h => by
    have l := h.hl
    rcases List.eq_nil_or_concat r with rfl | ⟨q, t, rfl⟩
    · simp at l
    · rw [List.concat_eq_append] at *
      refine List.mem_flatMap.mpr ⟨q, AT_mem k q ⟨by simpa using l, ?_, fun u hu => h.hr u (by simp [hu])⟩, List.mem_map.mpr ⟨t, inR_mem.mpr (h.hr t (by simp)), rfl⟩⟩
      have z := h.h0
      cases q with
      | nil => simp at l
      | cons x q => simpa using z
theorem AT_len {m : Int} : ∀ k : Nat, (AT m k).length = m.toNat ^ k
  | 0 => rfl
  | k + 1 => by
    have e : ∀ L : List (List Int), (L.flatMap (snocs m)).length = L.length * m.toNat := fun L => by
      induction L with
      | nil => simp
      | cons a L ih =>
        rw [List.flatMap_cons, List.length_append, ih, snocs, List.length_map, inR_len, List.length_cons, Nat.succ_mul]
        have : (m - 0).toNat = m.toNat := by rw [Int.sub_zero]
        omega
    show ((AT m k).flatMap (snocs m)).length = _
    rw [e, AT_len k, Nat.pow_succ]
def KL (m : Int) (n : Nat) (bs : List Bd) : List (List Int) := (AT m (n - 1)).filter fun r => bs.all (keepB m r)
theorem KL_sol {m : Int} {n : Nat} {bs : List Bd} {r : List Int} (hm : 0 < m) (h1 : 1 ≤ n) (h : r ∈ KL m n bs) : Sol m n bs fun i => r[i]! := by
  obtain ⟨ha, hb⟩ := List.mem_filter.mp h
  have p := AT_ok hm _ _ ha
  refine ⟨fun i hi => ?_, fun b hbm => (keep_iff hm).mp (List.all_eq_true.mp hb b hbm)⟩
  have l : i < r.length := by rw [p.hl]; omega
  rw [show r[i]! = r[i] by simp [l]]
  exact p.hr _ (List.getElem_mem l)
def rowX (m : Int) (n : Nat) (x : Nat → Int) : List Int := (List.range n).map fun i => (x i - x 0) % m
theorem rowX_at {m : Int} {n : Nat} {x : Nat → Int} {i : Nat} (h : i < n) : (rowX m n x)[i]! = (x i - x 0) % m := by
  unfold rowX
  rw [show ((List.range n).map fun i => (x i - x 0) % m)[i]! = ((List.range n).map fun i => (x i - x 0) % m)[i]'(by simpa using h) by simp [h]]
  simp
theorem sol_KL {m : Int} {n : Nat} {bs : List Bd} {x : Nat → Int} (hm : 0 < m) (h1 : 1 ≤ n) (hb : ∀ b ∈ bs, BdOk n b) (h : Sol m n bs x) : rowX m n x ∈ KL m n bs := by
  refine List.mem_filter.mpr ⟨AT_mem _ _ ⟨by simp [rowX]; omega, ?_, fun t ht => ?_⟩, List.all_eq_true.mpr fun b hbm => (keep_iff hm).mpr ?_⟩
  · rw [rowX_at (by omega)]; simp
  · obtain ⟨i, _, rfl⟩ := List.mem_map.mp ht
    exact ⟨Int.emod_nonneg _ (by omega), Int.emod_lt_of_pos _ hm⟩
  · obtain ⟨b1, b2, _⟩ := hb b hbm
    obtain ⟨k, k1, k2⟩ := h.kep b hbm
    rw [rowX_at (by omega), rowX_at (by omega)]
    unfold apart at k1 k2
    have e1 := Int.emod_add_mul_ediv (x b.2.1.toNat - x 0) m
    have e2 := Int.emod_add_mul_ediv (x b.1.toNat - x 0) m
    generalize (x b.2.1.toNat - x 0) / m = q1 at *
    generalize (x b.1.toNat - x 0) / m = q2 at *
    refine ⟨k + q1 - q2, ?_⟩
    rw [Int.sub_mul, Int.add_mul]
    rw [Int.mul_comm] at e1 e2
    omega
theorem sol_iff {m : Int} {n : Nat} {bs : List Bd} (hm : 0 < m) (h1 : 1 ≤ n) (hb : ∀ b ∈ bs, BdOk n b) : (∃ x, Sol m n bs x) ↔ KL m n bs ≠ [] := by
  constructor
  · rintro ⟨x, hx⟩ z
    have := sol_KL hm h1 hb hx
    rw [z] at this
    cases this
  · intro z
    obtain ⟨r, hr⟩ := List.exists_mem_of_ne_nil _ z
    exact ⟨_, KL_sol hm h1 hr⟩
/-- times of an event -/
theorem at_iff {m : Int} {n : Nat} {bs : List Bd} {e : Nat} {t : Int} (hm : 0 < m) (h1 : 1 ≤ n) (hb : ∀ b ∈ bs, BdOk n b) (he : 1 ≤ e ∧ e < n) (ht : 0 ≤ t ∧ t < m ∧ t ≤ 200) : (∃ x, Sol m n (bs ++ [(0, (e : Int), t, t)]) x) ↔ t ∈ (KL m n bs).map fun r => r[e]! := by
  constructor
  · rintro ⟨x, hx⟩
    have h1' : Sol m n bs x := ⟨hx.inn, fun b h => hx.kep b (by simp [h])⟩
    obtain ⟨k, k1, k2⟩ := hx.kep (0, (e : Int), t, t) (by simp)
    refine List.mem_map.mpr ⟨rowX m n x, sol_KL hm h1 hb h1', ?_⟩
    rw [rowX_at he.2]
    unfold apart at k1 k2
    simp at k1 k2
    have q : x e - x 0 = t + (-k) * m := by rw [Int.neg_mul]; omega
    rw [q, Int.add_mul_emod_self_right, Int.emod_eq_of_lt ht.1 ht.2.1]
  · intro h
    obtain ⟨r, hr, rfl⟩ := List.mem_map.mp h
    have s := KL_sol hm h1 hr
    have p := AT_ok hm _ _ (List.mem_filter.mp hr).1
    refine ⟨_, s.inn, fun b hb => ?_⟩
    rcases List.mem_append.mp hb with hb | hb
    · exact s.kep b hb
    · simp only [List.mem_singleton] at hb
      subst hb
      refine ⟨0, ?_⟩
      unfold apart
      have z := p.h0
      dsimp only
      rw [Int.toNat_natCast, show (0 : Int).toNat = 0 from rfl, z]
      omega
def hasS (m : Int) (n : Nat) (bs : List Bd) : Bool := !(KL m n bs).isEmpty
theorem hasS_iff {m : Int} {n : Nat} {bs : List Bd} (hm : 0 < m) (h1 : 1 ≤ n) (hb : ∀ b ∈ bs, BdOk n b) : hasS m n bs = true ↔ ∃ x, Sol m n bs x := by
  rw [sol_iff hm h1 hb]
  unfold hasS
  cases KL m n bs <;> simp
/-! what windows, needed_bounds, least_minutes tell -/
def WD (m : Int) (n : Nat) (bs : List Bd) (e : Nat) : List Int := sortI ((KL m n bs).map fun r => r[e]!)
theorem win0 {m : Int} {n : Nat} {bs : List Bd} (hm : 0 < m) : (if hasS m n bs = true then [0] else []) = WD m n bs 0 := by
  refine sortI_eq ?_ fun k => ?_
  · split <;> simp
  · have all0 : ∀ r ∈ KL m n bs, r[0]! = 0 := fun r hr => (AT_ok hm _ _ (List.mem_filter.mp hr).1).h0
    unfold hasS
    revert all0
    cases KL m n bs with
    | nil => intro _; simp
    | cons r l =>
      intro all0
      rw [show (!(r :: l).isEmpty) = true from rfl, if_pos rfl, List.mem_singleton]
      constructor
      · rintro rfl
        exact List.mem_map.mpr ⟨r, List.mem_cons_self, all0 r List.mem_cons_self⟩
      · intro h
        obtain ⟨q, hq, rfl⟩ := List.mem_map.mp h
        exact all0 q hq
def winB (m : Int) (n : Nat) (bs : List Bd) (e : Nat) (t : Int) : Bool := hasS m n (bs ++ [(0, (e : Int), t, t)])
theorem inR_lt {a n : Int} : (inR a n).Pairwise (· < ·) := by
  unfold inR
  rw [List.pairwise_map]
  exact List.pairwise_lt_range.imp fun h => by omega
theorem BdOk_e {n e : Nat} {t : Int} (he : 1 ≤ e ∧ e < n) (ht : 0 ≤ t ∧ t ≤ 200) : BdOk (n : Int) (0, (e : Int), t, t) := ⟨by dsimp only; omega, by dsimp only; omega, by dsimp only; omega, by dsimp only; omega, by dsimp only; omega, by dsimp only; omega⟩
theorem winE {m : Int} {n : Nat} {bs : List Bd} {e : Nat} (hm : 0 < m ∧ m ≤ 60) (h1 : 1 ≤ n) (hb : ∀ b ∈ bs, BdOk n b) (he : 1 ≤ e ∧ e < n) : (inR 0 m).filter (winB m n bs e) = WD m n bs e := by
  refine sortI_eq (inR_lt.sublist List.filter_sublist) fun k => ?_
  rw [List.mem_filter, inR_mem]
  have hb' : ∀ t : Int, 0 ≤ t ∧ t < m → ∀ b ∈ bs ++ [(0, (e : Int), t, t)], BdOk n b := fun t ht b hbm => by
    rcases List.mem_append.mp hbm with h | h
    · exact hb b h
    · simp only [List.mem_singleton] at h
      subst h
      exact BdOk_e he (by omega)
  constructor
  · rintro ⟨h, w⟩
    exact (at_iff hm.1 h1 hb he ⟨h.1, h.2, by omega⟩).mp ((hasS_iff hm.1 h1 (hb' k h)).mp w)
  · intro h
    have hk : 0 ≤ k ∧ k < m := by
      obtain ⟨r, hr, rfl⟩ := List.mem_map.mp h
      exact (KL_sol hm.1 h1 hr).inn e he.2
    exact ⟨hk, (hasS_iff hm.1 h1 (hb' k hk)).mpr ((at_iff hm.1 h1 hb he ⟨hk.1, hk.2, by omega⟩).mpr h)⟩
end K53

namespace K53
open PySem PySem.Spec PyProof.Rows L2 DL
/-! times told one by one, read -/
structure Acc (m : Int) (k : Nat) (acc rest : List (List Int)) : Prop where
  eq : acc ++ rest.flatMap (snocs m) = AT m (k + 1)
  ok : ∀ r ∈ rest, RowT m k r
  len : acc.length + 12 * rest.length ≤ 12 ^ 3
theorem snocs_len {m : Int} (h : 0 < m ∧ m ≤ 12) {r : List Int} : (snocs m r).length ≤ 12 := by
  unfold snocs; rw [List.length_map, inR_len]; omega
theorem Acc.start {m : Int} {k : Nat} (hm : 0 < m ∧ m ≤ 12) (hk : k ≤ 2) : Acc m k [] (AT m k) := by
  have l := AT_len (m := m) k
  have h1 : m.toNat ^ k ≤ 12 ^ k := Nat.pow_le_pow_left (by omega) k
  have h2 : 12 ^ k ≤ 12 ^ 2 := Nat.pow_le_pow_right (by decide) hk
  exact ⟨rfl, AT_ok hm.1 k, by simp; omega⟩
theorem Acc.next {m : Int} {k : Nat} {acc rest : List (List Int)} {r : List Int} (hm : 0 < m ∧ m ≤ 12) (h : Acc m k acc (r :: rest)) : Acc m k (acc ++ snocs m r) rest := by
  have e := snocs_len hm (r := r)
  have := h.len
  refine ⟨by rw [← h.eq, List.flatMap_cons, List.append_assoc], fun q hq => h.ok q (List.mem_cons_of_mem _ hq), ?_⟩
  rw [List.length_append]
  simp at this
  omega
def addO (r : List Int) (d : D) : D := match d with
  | .int o => dT (r ++ [o])
  | d => d
theorem snocs_D {m : Int} {r : List Int} : ((inR 0 m).map D.int).map (addO r) = (snocs m r).map dT := by
  unfold snocs
  rw [List.map_map, List.map_map]
  exact List.map_congr_left fun o _ => rfl
def InvE (m n : Int) (k : Nat) (s2 s3 : SV) (ds : List D) (S : Fs) : Prop := ∃ (acc rest : List (List Int)) (s5 s6 : SV), S = [.va (.int m), .va (.int n), s2, s3, .ow none (.lst (acc.map dT)), s5, s6] ∧ ds = rest.map dT ∧ Acc m k acc rest
def InvO (m n : Int) (N : Nat) (ds : List D) (S : Fs) : Prop := ∃ (k j : Nat) (s3 s4 s5 s6 : SV), S = [.va (.int m), .va (.int n), .va (.lst ((AT m k).map dT)), s3, s4, s5, s6] ∧ ds = rangeD k j ∧ k + j = N
theorem alltimes_ok {m : Int} {n : Nat} (hm : 0 < m ∧ m ≤ 12) (hn : 1 ≤ n ∧ n ≤ 3) : Fv F__law_all_times [.int m, .int n] = .ok (.lst ((AT m (n - 1)).map dT)) := by
  refine Fv_of ?_
  unfold f__law_all_times
  simp [show (-4000000000000000000 : Int) ≤ (n : Int) - 1 ∧ (n : Int) - 1 ≤ 16777216 by omega]
  refine okO.for (InvO m n (n - 1)) ?_ ?_ _ _ ⟨0, n - 1, _, _, _, _, by simp [AT, dT] <;> exact ⟨rfl, rfl, rfl, rfl⟩, rfl, by omega⟩
  · rintro d ds S ⟨k, j, s3, s4, s5, s6, rfl, e, hk⟩
    obtain ⟨rfl, j, rfl, rfl⟩ := rangeD_cons e.symm
    simp [fListO, fLstO]
    refine okO.for (InvE m n k (.va (.lst ((AT m k).map dT))) (.va (.int k))) ?_ ?_ _ _ ⟨[], AT m k, _, _, rfl, rfl, Acc.start hm (by omega)⟩
    · rintro d ds S ⟨acc, rest, s5, s6, rfl, e, hA⟩
      cases rest with
      | nil => cases e
      | cons r rest =>
        cases e
        have hr := hA.ok r List.mem_cons_self
        have rl := hr.hl
        have hn := hA.next hm
        have nl := hn.len
        have rg : rangeD 0 m.toNat = (inR 0 m).map D.int := by rw [← inR_D, Int.sub_zero]
        simp [dT, show (-4000000000000000000 : Int) ≤ m ∧ m ≤ 16777216 by omega, rg]
        rw [compR (addO r) (by
          rintro d hd
          obtain ⟨o, _, rfl⟩ := List.mem_map.mp hd
          exact ⟨_, rfl, by simp [addO, dT, rl, show k + 1 + 1 ≤ 16777216 by omega], by simp⟩), snocs_D]
        rw [List.length_append] at nl
        simp [show acc.length + (snocs m r).length ≤ 16777216 by omega]
        exact ⟨acc ++ snocs m r, rest, _, _, by simp [dT] <;> exact ⟨rfl, rfl⟩, rfl, hn⟩
    · rintro S ⟨acc, rest, s5, s6, rfl, e, hA⟩
      cases rest with
      | cons r rest => cases e
      | nil =>
        have q := hA.eq
        simp at q
        subst q
        simp
        exact ⟨k + 1, j, _, _, _, _, by simp <;> exact ⟨rfl, rfl, rfl, rfl⟩, by simp, by omega⟩
  · rintro S ⟨k, j, s3, s4, s5, s6, rfl, e, hk⟩
    have := rangeD_nil e
    subst this
    have ek : k = n - 1 := by omega
    subst ek
    simp
def kfn (m : Int) (ts : List Int) (d : D) : D := match d with
  | .tup [.int i, .int j, .int l, .int h] => .bl (keepB m ts (i, j, l, h))
  | d => d
theorem kfn_map {m : Int} {ts : List Int} (bs : List Bd) : (bs.map dB).map (kfn m ts) = bs.map fun b => D.bl (keepB m ts b) := by
  rw [List.map_map]; rfl
def tsOf : D → List Int
  | .tup xs => xs.filterMap DL.intD
  | _ => []
theorem tsOf_dT (ts : List Int) : tsOf (dT ts) = ts := by
  simp only [tsOf, dT]
  induction ts with
  | nil => rfl
  | cons t r ih => simp [DL.intD, ih]
theorem RowT.tm {m : Int} {n : Nat} {r : List Int} (hn : 1 ≤ n) (h : RowT m (n - 1) r) : TmOk m n r := ⟨by rw [h.hl]; omega, h.hr⟩
theorem kept_ok {m : Int} {n : Nat} {bs : List Bd} (hm : 2 ≤ m ∧ m ≤ 12) (hn : 1 ≤ n ∧ n ≤ 3) (hb : ∀ b ∈ bs, BdOk n b) : Fv F__law_kept [.int m, .int n, dBs bs] = .ok (.lst ((KL m n bs).map dT)) := by
  have e := alltimes_ok (m := m) (n := n) (by omega) hn
  have hA := AT_ok (m := m) (by omega) (n - 1)
  refine Fv_of ?_
  unfold f__law_kept
  simp [e, dBs]
  rw [compRF (fun d => d) (fun d => bs.all (keepB m (tsOf d))) (by
    rintro d hd
    obtain ⟨r, hr, rfl⟩ := List.mem_map.mp hd
    have ht := (hA r hr).tm hn.1
    refine ⟨_, rfl, ?_, fun _ => by simp, by simp⟩
    simp
    rw [compR (kfn m r) (by
      rintro d hd
      obtain ⟨b, hb', rfl⟩ := List.mem_map.mp hd
      exact ⟨_, rfl, by simp [lkeeps_ok (by omega) (hb b hb') ht]; rfl, by simp⟩), kfn_map]
    simp [tsOf_dT])]
  simp
  unfold KL
  rw [List.filter_map]
  congr 1
  exact congrArg (fun p => List.filter p (AT m (n - 1))) (funext fun r => by simp [Function.comp, tsOf_dT])
end K53

namespace K53
open PySem PySem.Spec PyProof.Rows L2 DL
/-! windows, needed bounds, least minutes, read -/
def wD (b : Bool) : D := .str (if b = true then "times" else "tree")
theorem wD_eq {b : Bool} {M : Mp} : fEq (wD b) (.str "times") M = some (.bl b) := by cases b <;> kernel_rfl
theorem wD_eqM {b : Bool} : fEq (wD b) (.str "times") Mn = some (.bl b) := wD_eq
theorem raw_w {m : Int} {n : Nat} {bs : List Bd} (hm : 2 ≤ m ∧ m ≤ 60) (hn : 1 ≤ n ∧ n ≤ 6) (hb : ∀ b ∈ bs, BdOk n b) (hl : bs.length ≤ 5) : ∃ e, Fv F_raw_told [.int m, .int n, .tup (bs.map dB)] = .ok (.tup [wD (hasS m n bs), e]) := by
  obtain ⟨d, ⟨w, e, rfl, h⟩, r⟩ := raw_ok hm hn hb hl
  refine ⟨e, ?_⟩
  have q := hasS_iff (m := m) (by omega) hn.1 hb
  rw [show Fv F_raw_told [.int m, .int n, .tup (bs.map dB)] = _ from r]
  rcases h with ⟨rfl, h⟩ | ⟨rfl, h⟩
  · rw [q.mpr h]; rfl
  · rw [show hasS m n bs = false from Bool.eq_false_iff.mpr fun z => by obtain ⟨x, hx⟩ := q.mp z; exact h x hx]; rfl
structure Tm (m : Int) (n : Nat) (bs : List Bd) : Prop where
  hm : 2 ≤ m ∧ m ≤ 60
  hn : 1 ≤ n ∧ n ≤ 6
  hl : bs.length ≤ 4
  hb : ∀ b ∈ bs, BdOk n b
theorem Tm.tt {m : Int} {n : Nat} {bs : List Bd} (h : Tm m n bs) : Fv F_check_timetable [.int m, .int n, .tup (bs.map dB)] = .ok .non := timetable_ok (m := m) (n := n) (bs := bs) ⟨h.hm, by have := h.hn; omega, by have := h.hl; omega, h.hb⟩
def InvWi (m : Int) (n : Nat) (bs : List Bd) (e : Nat) (ds : List D) (S : Fs) : Prop := ∃ (acc rest : List Int) (s5 : SV), S = [.va (.int m), .va (.int n), .va (.tup (bs.map dB)), .va (.int e), .ow none (.lst (acc.map D.int)), s5] ∧ ds = rest.map D.int ∧ acc ++ rest.filter (winB m n bs e) = (inR 0 m).filter (winB m n bs e) ∧ acc.length + rest.length ≤ 60 ∧ ∀ t ∈ rest, 0 ≤ t ∧ t < m
theorem windows_ok {m : Int} {n : Nat} {bs : List Bd} (h : Tm m n bs) {e : Nat} (he : e < n) : Fv F_windows [.int m, .int n, .tup (bs.map dB), .int e] = .ok (.tup ((WD m n bs e).map D.int)) := by
  have hm := h.hm
  have hn := h.hn
  have hl := h.hl
  refine Fv_of ?_
  unfold f_windows
  have w1 : within (.int (e : Nat)) 0 ((n : Int) - 1) = true := by simp [within]; omega
  simp [h.tt, within_ok (d := .int (e : Nat)) rfl, w1]
  rcases Nat.eq_zero_or_pos e with z | z
  · subst z
    obtain ⟨x, hr⟩ := raw_w hm hn h.hb (by omega)
    simp [hr, wD_eqM]
    rw [← win0 (show 0 < m by omega)]
    cases hasS m n bs <;> rfl
  · have he' : ¬ e = 0 := by omega
    have rg : rangeD 0 m.toNat = (inR 0 m).map D.int := by rw [← inR_D, Int.sub_zero]
    simp [he', fLstO, show (-4000000000000000000 : Int) ≤ m ∧ m ≤ 16777216 by omega, rg]
    refine okO.for (InvWi m n bs e) ?_ ?_ _ _ ⟨[], inR 0 m, _, by simp <;> exact rfl, rfl, by simp, by rw [inR_len]; simp; omega, fun t ht => inR_mem.mp ht⟩
    · rintro d ds S ⟨acc, rest, s5, rfl, e1, h1, h2, h3⟩
      cases rest with
      | nil => cases e1
      | cons t rest =>
        cases e1
        have ht := h3 t List.mem_cons_self
        obtain ⟨x, hr⟩ := raw_w (bs := bs ++ [(0, (e : Int), t, t)]) hm hn (fun b hbm => by
          rcases List.mem_append.mp hbm with q | q
          · exact h.hb b q
          · simp only [List.mem_singleton] at q
            subst q
            exact BdOk_e ⟨z, he⟩ (by omega)) (by simp; omega)
        rw [List.map_append, List.map_cons, List.map_nil, dB] at hr
        rw [show hasS m n (bs ++ [(0, (e : Int), t, t)]) = winB m n bs e t from rfl] at hr
        simp at h2
        simp [hr, wD_eqM, show bs.length + 1 ≤ 16777216 by omega]
        rw [List.filter_cons] at h1
        cases hw : winB m n bs e t with
        | false =>
          rw [hw] at h1
          simp
          exact ⟨acc, rest, _, rfl, rfl, by simpa using h1, by omega, fun t ht => h3 t (List.mem_cons_of_mem _ ht)⟩
        | true =>
          rw [hw] at h1
          simp [show acc.length < 16777216 by omega]
          exact ⟨acc ++ [t], rest, _, by simp <;> exact rfl, rfl, by simpa using h1, by simp; omega, fun t ht => h3 t (List.mem_cons_of_mem _ ht)⟩
    · rintro S ⟨acc, rest, s5, rfl, e1, h1, h2, h3⟩
      cases rest with
      | cons t rest => cases e1
      | nil =>
        rw [winE (by omega) hn.1 h.hb ⟨z, he⟩] at h1
        simp at h1
        simp [h1]
/-! needed -/
def lack (bs : List Bd) (k : Nat) : List Bd := bs.take k ++ bs.drop (k + 1)
theorem lack_sub {bs : List Bd} {k : Nat} {b : Bd} (h : b ∈ lack bs k) : b ∈ bs := by
  rcases List.mem_append.mp h with h | h
  · exact List.mem_of_mem_take h
  · exact List.mem_of_mem_drop h
theorem lack_len {bs : List Bd} {k : Nat} : (lack bs k).length ≤ bs.length := by
  unfold lack
  rw [List.length_append, List.length_take, List.length_drop]
  omega
def ndB (m : Int) (n : Nat) (bs : List Bd) (k : Nat) : Bool := hasS m n (lack bs k)
def ND (m : Int) (n : Nat) (bs : List Bd) : List Nat := if hasS m n bs = true then [] else (List.range bs.length).filter (ndB m n bs)
theorem rangeN (N : Nat) : rangeD 0 N = (List.range N).map dNat := List.map_congr_left fun k _ => by simp [dNat]
def InvD (m : Int) (n : Nat) (bs : List Bd) (ds : List D) (S : Fs) : Prop := ∃ (acc rest : List Nat) (s4 : SV), S = [.va (.int m), .va (.int n), .va (.tup (bs.map dB)), .ow none (.lst (acc.map dNat)), s4] ∧ ds = rest.map dNat ∧ acc ++ rest.filter (ndB m n bs) = (List.range bs.length).filter (ndB m n bs) ∧ acc.length + rest.length ≤ 10 ∧ ∀ k ∈ rest, k < bs.length
theorem cutL {bs : List Bd} {k : Nat} : cutD (bs.map dB) none (some (k : Int)) ++ cutD (bs.map dB) (some ((k : Int) + 1)) none = (lack bs k).map dB := by
  rw [cut_to, show ((k : Int) + 1) = ((k + 1 : Nat) : Int) by omega, cut_from, lack, List.map_append, List.map_take, List.map_drop]
theorem cutLl {bs : List Bd} {k : Nat} (h : bs.length ≤ 10) : (cutD (bs.map dB) none (some (k : Int))).length + (cutD (bs.map dB) (some ((k : Int) + 1)) none).length ≤ 16777216 := by
  have := lack_len (bs := bs) (k := k)
  rw [← List.length_append, cutL, List.length_map]
  omega
theorem needed_ok {m : Int} {n : Nat} {bs : List Bd} (h : Tm m n bs) : Fv F_needed_bounds [.int m, .int n, .tup (bs.map dB)] = .ok (.tup ((ND m n bs).map dNat)) := by
  have hm := h.hm
  have hn := h.hn
  have hl := h.hl
  refine Fv_of ?_
  unfold f_needed_bounds
  obtain ⟨x, hr⟩ := raw_w hm hn h.hb (by omega)
  simp [h.tt, hr, wD_eqM]
  unfold ND
  cases hs : hasS m n bs with
  | true => simp
  | false =>
    simp [fLstO, show bs.length ≤ 16777216 by omega, show (bs.length : Int) ≤ 16777216 by omega, rangeN]
    refine okO.for (InvD m n bs) ?_ ?_ _ _ ⟨[], List.range bs.length, _, by simp <;> exact rfl, rfl, by simp, by simp; omega, fun t ht => List.mem_range.mp ht⟩
    · rintro d ds S ⟨acc, rest, s5, rfl, e1, h1, h2, h3⟩
      cases rest with
      | nil => cases e1
      | cons t rest =>
        cases e1
        have ht := h3 t List.mem_cons_self
        obtain ⟨x, hr⟩ := raw_w (bs := lack bs t) hm hn (fun b hb => h.hb b (lack_sub hb)) (by have := lack_len (bs := bs) (k := t); omega)
        rw [show hasS m n (lack bs t) = ndB m n bs t from rfl, ← cutL] at hr
        have cl := cutLl (bs := bs) (k := t) (by omega)
        simp at h2
        simp [dNat, hr, wD_eqM, cl, -List.length_append]
        rw [List.filter_cons] at h1
        cases hw : ndB m n bs t with
        | false =>
          rw [hw] at h1
          simp
          exact ⟨acc, rest, _, rfl, rfl, by simpa using h1, by omega, fun t ht => h3 t (List.mem_cons_of_mem _ ht)⟩
        | true =>
          rw [hw] at h1
          simp [show acc.length < 16777216 by omega]
          exact ⟨acc ++ [t], rest, _, by simp [dNat] <;> exact rfl, rfl, by simpa using h1, by simp; omega, fun t ht => h3 t (List.mem_cons_of_mem _ ht)⟩
    · rintro S ⟨acc, rest, s5, rfl, e1, h1, h2, h3⟩
      cases rest with
      | cons t rest => cases e1
      | nil =>
        simp at h1
        simp [h1]
/-! least minutes -/
def lmB (n : Nat) (bs : List Bd) (m : Int) : Bool := hasS m n bs
def LM (n : Nat) (bs : List Bd) : Option Int := (inR 2 61).find? (lmB n bs)
def dLm : Option Int → D
  | none => .non
  | some v => .int v
def InvM (n : Nat) (bs : List Bd) (ds : List D) (S : Fs) : Prop := ∃ (rest : List Int) (s2 : SV), S = [.va (.int n), .va (.tup (bs.map dB)), s2] ∧ ds = rest.map D.int ∧ rest.find? (lmB n bs) = LM n bs ∧ ∀ t ∈ rest, 2 ≤ t ∧ t < 61
theorem bounds_tt {n : Nat} {bs : List Bd} (hn : 1 ≤ n ∧ n ≤ 6) (hl : bs.length ≤ 4) (hb : ∀ b ∈ bs, BdOk n b) : Fv F_check_bounds [.int n, .tup (bs.map dB)] = .ok .non := by
  have := bounds_ok (n := .int n) (d := dBs bs) rfl fun _ => dBs_plain bs
  rw [show Fv F_check_bounds [.int n, .tup (bs.map dB)] = _ from this]
  unfold bdR; dsimp only
  rw [if_pos (by simp [within]; omega), if_pos (dBs_bounds (m := 2) (n := n) ⟨by omega, by omega, by omega, hb⟩)]
theorem least_ok {n : Nat} {bs : List Bd} (hn : 1 ≤ n ∧ n ≤ 6) (hl : bs.length ≤ 4) (hb : ∀ b ∈ bs, BdOk n b) : Fv F_least_minutes [.int n, .tup (bs.map dB)] = .ok (dLm (LM n bs)) := by
  refine Fv_of ?_
  unfold f_least_minutes
  have rg : rangeD 2 59 = (inR 2 61).map D.int := by rw [← inR_D]; rfl
  simp [bounds_tt hn hl hb, rg]
  refine okO.for (InvM n bs) ?_ ?_ _ _ ⟨inR 2 61, _, by simp <;> exact rfl, rfl, rfl, fun t ht => inR_mem.mp ht⟩
  · rintro d ds S ⟨rest, s2, rfl, e1, h1, h2⟩
    cases rest with
    | nil => cases e1
    | cons t rest =>
      cases e1
      have ht := h2 t List.mem_cons_self
      obtain ⟨x, hr⟩ := raw_w (m := t) (by omega) hn hb (by omega)
      rw [show hasS t n bs = lmB n bs t from rfl] at hr
      simp [hr, wD_eqM]
      rw [List.find?_cons] at h1
      cases hw : lmB n bs t with
      | true =>
        rw [hw] at h1
        simp
        rw [← h1]; rfl
      | false =>
        rw [hw] at h1
        simp
        exact ⟨rest, _, rfl, rfl, h1, fun t ht => h2 t (List.mem_cons_of_mem _ ht)⟩
  · rintro S ⟨rest, s2, rfl, e1, h1, h2⟩
    cases rest with
    | cons t rest => cases e1
    | nil =>
      simp
      rw [← h1]; rfl
theorem round_ok {m : Int} {n : Nat} {bs : List Bd} (h : Tm m n bs) : ∃ e, Fv F_round_told [.int m, .int n, .tup (bs.map dB)] = .ok (.tup [wD (hasS m n bs), e]) := by
  obtain ⟨e, hr⟩ := raw_w h.hm h.hn h.hb (by have := h.hl; omega)
  refine ⟨e, Fv_of ?_⟩
  unfold f_round_told
  simp [h.tt, hr]
end K53

namespace K53
open PySem PySem.Spec PyProof.Rows L2 DL
/-! the law's own look -/
def LL (n : Nat) (bs : List Bd) : Option Int := (inR 2 13).find? (lmB n bs)
theorem LL_LM {n : Nat} {bs : List Bd} {m : Int} (h : LL n bs = some m) : LM n bs = some m := by
  unfold LM
  rw [show inR 2 61 = inR 2 13 ++ inR 13 61 by decide, List.find?_append]
  rw [show (inR 2 13).find? (lmB n bs) = some m from h]
  rfl
theorem LL_in {n : Nat} {bs : List Bd} {m : Int} (h : LL n bs = some m) : (2 ≤ m ∧ m ≤ 12) ∧ hasS m n bs = true := by
  have := inR_mem.mp (List.mem_of_find?_eq_some h)
  have q := List.find?_some h
  exact ⟨by omega, q⟩
def InvLl (n : Nat) (bs : List Bd) (ds : List D) (S : Fs) : Prop := ∃ (rest : List Int) (s2 : SV), S = [.va (.int n), .va (.tup (bs.map dB)), s2] ∧ ds = rest.map D.int ∧ rest.find? (lmB n bs) = LL n bs ∧ ∀ t ∈ rest, 2 ≤ t ∧ t < 13
theorem KL_len {m : Int} {n : Nat} {bs : List Bd} (hm : m ≤ 12) (hn : n ≤ 3) : (KL m n bs).length ≤ 144 := by
  refine Nat.le_trans (List.length_filter_le _ _) ?_
  rw [AT_len]
  have h1 : m.toNat ^ (n - 1) ≤ 12 ^ (n - 1) := Nat.pow_le_pow_left (by omega) _
  have h2 : 12 ^ (n - 1) ≤ 12 ^ 2 := Nat.pow_le_pow_right (by decide) (by omega)
  omega
theorem KL_len7 {m : Int} {n : Nat} {bs : List Bd} (hm : m ≤ 7) (hn : n ≤ 3) : (KL m n bs).length < 64 := by
  refine Nat.lt_of_le_of_lt (List.length_filter_le _ _) ?_
  rw [AT_len]
  have h1 : m.toNat ^ (n - 1) ≤ 7 ^ (n - 1) := Nat.pow_le_pow_left (by omega) _
  have h2 : 7 ^ (n - 1) ≤ 7 ^ 2 := Nat.pow_le_pow_right (by decide) (by omega)
  omega
theorem KL_pos {m : Int} {n : Nat} {bs : List Bd} : decide (0 < ((KL m n bs).length : Int)) = hasS m n bs := by
  unfold hasS
  cases KL m n bs with
  | nil => rfl
  | cons a l => simp <;> omega
theorem lleast_ok {n : Nat} {bs : List Bd} (hn : 1 ≤ n ∧ n ≤ 3) (hb : ∀ b ∈ bs, BdOk n b) : Fv F__law_least [.int n, .tup (bs.map dB)] = .ok (dLm (LL n bs)) := by
  refine Fv_of ?_
  unfold f__law_least
  have rg : rangeD 2 11 = (inR 2 13).map D.int := by rw [← inR_D]; rfl
  simp [rg]
  refine okO.for (InvLl n bs) ?_ ?_ _ _ ⟨inR 2 13, _, by simp <;> exact rfl, rfl, rfl, fun t ht => inR_mem.mp ht⟩
  · rintro d ds S ⟨rest, s2, rfl, e1, h1, h2⟩
    cases rest with
    | nil => cases e1
    | cons t rest =>
      cases e1
      have ht := h2 t List.mem_cons_self
      have hr := kept_ok (m := t) (by omega) hn hb
      have kl := KL_len (m := t) (n := n) (bs := bs) (by omega) hn.2
      have kp := KL_pos (m := t) (n := n) (bs := bs)
      rw [show hasS t n bs = lmB n bs t from rfl] at kp
      unfold dBs at hr
      generalize KL t n bs = kk at hr kl kp
      simp [hr, show kk.length ≤ 16777216 by omega, -Int.natCast_pos]
      rw [List.find?_cons] at h1
      cases hw : lmB n bs t with
      | true =>
        rw [hw] at h1 kp
        have kp' : 0 < kk.length := by have := of_decide_eq_true kp; omega
        simp [kp']
        rw [← h1]; rfl
      | false =>
        rw [hw] at h1 kp
        have kp' : ¬ 0 < kk.length := by have := of_decide_eq_false kp; omega
        simp [kp']
        exact ⟨rest, _, rfl, rfl, h1, fun t ht => h2 t (List.mem_cons_of_mem _ ht)⟩
  · rintro S ⟨rest, s2, rfl, e1, h1, h2⟩
    cases rest with
    | cons t rest => cases e1
    | nil =>
      simp
      rw [← h1]; rfl
end K53

namespace K53
open PySem PySem.Spec PyProof.Rows L2 DL
/-! the law's look, read -/
structure Ask (m : Int) (n : Nat) (bs : List Bd) : Prop where
  hm : 2 ≤ m ∧ m ≤ 7
  hn : 1 ≤ n ∧ n ≤ 3
  hl : bs.length ≤ 4
  hb : ∀ b ∈ bs, BdOk n b
theorem Ask.tm {m : Int} {n : Nat} {bs : List Bd} (h : Ask m n bs) : Tm m n bs := ⟨⟨h.hm.1, by have := h.hm; omega⟩, ⟨h.hn.1, by have := h.hn; omega⟩, h.hl, h.hb⟩
def evF (e : Nat) (d : D) : D := match d with
  | .tup xs => xs[e]?.getD .non
  | d => d
theorem evF_map {m : Int} {n e : Nat} {bs : List Bd} (hm : 0 < m) (h1 : 1 ≤ n) (he : e < n) : ((KL m n bs).map dT).map (evF e) = ((KL m n bs).map fun r => r[e]!).map D.int := by
  rw [List.map_map, List.map_map]
  refine List.map_congr_left fun r hr => ?_
  have p := AT_ok hm _ _ (List.mem_filter.mp hr).1
  have l : e < r.length := by rw [p.hl]; omega
  simp [dT, evF, l]
def InvV (m : Int) (n : Nat) (bs : List Bd) (ds : List D) (S : Fs) : Prop := ∃ (l : List D) (k j : Nat) (s5 s6 : SV), S = [.ow (some 0) (.lst l), .va (.int m), .va (.int n), .va (.tup (bs.map dB)), .va (.lst ((KL m n bs).map dT)), s5, s6, .no, .no, .no, .no, .no] ∧ HO l ∧ ds = rangeD k j ∧ k + j = n
def needB (m : Int) (n : Nat) (bs : List Bd) (k : Nat) : Bool := !hasS m n bs && ndB m n bs k
theorem ND_eq {m : Int} {n : Nat} {bs : List Bd} : (List.range bs.length).filter (needB m n bs) = ND m n bs := by
  unfold ND
  cases hs : hasS m n bs with
  | true =>
    simp [needB, hs]
  | false =>
    rw [if_neg (by simp)]
    exact List.filter_congr fun k _ => by simp [needB, hs]
def InvQ (m : Int) (n : Nat) (bs : List Bd) (ds : List D) (S : Fs) : Prop := ∃ (l : List D) (acc rest : List Nat) (s5 s6 s8 s9 : SV), S = [.ow (some 0) (.lst l), .va (.int m), .va (.int n), .va (.tup (bs.map dB)), .va (.lst ((KL m n bs).map dT)), s5, s6, .ow none (.lst (acc.map dNat)), s8, s9, .no, .no] ∧ HO l ∧ ds = rest.map dNat ∧ acc ++ rest.filter (needB m n bs) = ND m n bs ∧ acc.length + rest.length ≤ 10 ∧ ∀ k ∈ rest, k < bs.length
theorem shI (xs : List Int) : shp 64 (.tup (xs.map D.int)) = true := by simp
theorem shN (xs : List Nat) : shp 64 (.tup (xs.map dNat)) = true := by
  have : xs.map dNat = (xs.map (Nat.cast : Nat → Int)).map D.int := by rw [List.map_map]; rfl
  rw [this]; exact shI _
theorem KL_z {m : Int} {n : Nat} {bs : List Bd} : decide (((KL m n bs).length : Int) = 0) = !hasS m n bs := by
  unfold hasS
  cases KL m n bs with
  | nil => rfl
  | cons a l => simp <;> omega
theorem right_ok {m : Int} {n : Nat} {bs : List Bd} (h : Ask m n bs) : Hd HO F__law_is_right [.int m, .int n, .tup (bs.map dB)] (fun d => d = .bl true) := by
  refine Hd_of fun l hl0 => ?_
  have hm := h.hm
  have hn := h.hn
  have hl := h.hl
  have kl := KL_len7 (m := m) (n := n) (bs := bs) hm.2 hn.2
  have hK := kept_ok (m := m) (by omega) hn h.hb
  unfold dBs at hK
  unfold f__law_is_right
  simp [hK, show (-4000000000000000000 : Int) ≤ n ∧ (n : Int) ≤ 16777216 by omega]
  refine okO.for (InvV m n bs) ?_ ?_ _ _ ⟨l, 0, n, _, _, rfl, hl0, rfl, by omega⟩
  · rintro d ds S ⟨l, k, j, s5, s6, rfl, hl1, e1, hk⟩
    obtain ⟨rfl, j, rfl, rfl⟩ := rangeD_cons e1.symm
    have w := windows_ok h.tm (e := k) (by omega)
    have em := evF_map (m := m) (n := n) (e := k) (bs := bs) (by omega) hn.1 (by omega)
    simp
    rw [compR (evF k) (by
      rintro d hd
      obtain ⟨r, hr, rfl⟩ := List.mem_map.mp hd
      have p := AT_ok (m := m) (by omega) _ _ (List.mem_filter.mp hr).1
      have q := at_nat (f := D.int) (ax := r) (k := k) (by rw [p.hl]; omega)
      have l : k < r.length := by rw [p.hl]; omega
      exact ⟨_, rfl, by simp [dT, q, evF, l], by simp⟩), em]
    have ss := sortset_ints (M := Mn) (ks := (KL m n bs).map fun r => r[k]!) (by simpa using kl)
    rw [show sortI ((KL m n bs).map fun r => r[k]!) = WD m n bs k from rfl] at ss
    simp only [R.bind_ok]
    generalize (KL m n bs).map (fun r => r[k]!) = ks at ss ⊢
    simp [ss, w, fNe_self (shI (WD m n bs k))]
    exact ⟨l, k + 1, j, _, _, rfl, hl1, by simp, by omega⟩
  · rintro S ⟨l, k, j, s5, s6, rfl, hl1, e1, hk⟩
    have := rangeD_nil e1
    subst this
    have kz := KL_z (m := m) (n := n) (bs := bs)
    simp [fLstO, show bs.length ≤ 16777216 by omega, show (bs.length : Int) ≤ 16777216 by omega, rangeN]
    refine okO.for (InvQ m n bs) ?_ ?_ _ _ ⟨l, [], List.range bs.length, _, _, _, _, by simp <;> exact ⟨rfl, rfl, rfl, rfl⟩, hl1, rfl, by simpa using ND_eq, by simp; omega, fun t ht => List.mem_range.mp ht⟩
    · rintro d ds S ⟨l, acc, rest, s5, s6, s8, s9, rfl, hl2, e1, h1, h2, h3⟩
      cases rest with
      | nil => cases e1
      | cons t rest =>
        cases e1
        have hR := kept_ok (m := m) (bs := lack bs t) (by omega) hn (fun b hb => h.hb b (lack_sub hb))
        unfold dBs at hR
        have rl := KL_len (m := m) (n := n) (bs := lack bs t) (by omega) hn.2
        have rp := KL_pos (m := m) (n := n) (bs := lack bs t)
        rw [show hasS m n (lack bs t) = ndB m n bs t from rfl] at rp
        rw [← cutL] at hR
        have cl := cutLl (bs := bs) (k := t) (by omega)
        have hw : needB m n bs t = (!hasS m n bs && ndB m n bs t) := rfl
        simp at h2
        rw [List.filter_cons] at h1
        rw [hw] at h1
        generalize KL m n (lack bs t) = kr at hR rl rp
        have nx : ∀ s9 : SV, needB m n bs t = false → InvQ m n bs (rest.map dNat) [.ow (some 0) (.lst l), .va (.int m), .va (.int n), .va (.tup (bs.map dB)), .va (.lst ((KL m n bs).map dT)), s5, s6, .ow none (.lst (acc.map dNat)), .va (.int t), s9, .no, .no] := fun s9 z => by
          rw [← hw, z] at h1
          exact ⟨l, acc, rest, _, _, _, _, rfl, hl2, rfl, by simpa using h1, by omega, fun k hk => h3 k (List.mem_cons_of_mem _ hk)⟩
        have nx2 : ∀ s9 : SV, needB m n bs t = true → InvQ m n bs (rest.map dNat) [.ow (some 0) (.lst l), .va (.int m), .va (.int n), .va (.tup (bs.map dB)), .va (.lst ((KL m n bs).map dT)), s5, s6, .ow none (.lst (acc.map dNat ++ [.int t])), .va (.int t), s9, .no, .no] := fun s9 z => by
          rw [← hw, z] at h1
          exact ⟨l, acc ++ [t], rest, _, _, _, _, by simp [dNat] <;> exact ⟨rfl, rfl, rfl, rfl⟩, hl2, rfl, by simpa using h1, by simp; omega, fun k hk => h3 k (List.mem_cons_of_mem _ hk)⟩
        simp [dNat, cl, hR, show kr.length ≤ 16777216 by omega, -List.length_append, -Int.natCast_pos, show (KL m n bs).length ≤ 16777216 by omega, -List.length_eq_zero_iff, -Int.natCast_eq_zero]
        rw [rp]
        cases hs : hasS m n bs with
        | true =>
          rw [hs] at kz
          rw [if_neg (of_decide_eq_false kz)]
          simp
          exact nx _ (by rw [hw, hs]; rfl)
        | false =>
          rw [hs] at kz
          rw [if_pos (of_decide_eq_true kz)]
          cases hd : ndB m n bs t with
          | false =>
            simp
            exact nx _ (by rw [hw, hs, hd]; rfl)
          | true =>
            simp [show acc.length < 16777216 by omega]
            exact nx2 _ (by rw [hw, hs, hd]; rfl)
    · rintro S ⟨l, acc, rest, s5, s6, s8, s9, rfl, hl2, e1, h1, h2, h3⟩
      cases rest with
      | cons t rest => cases e1
      | nil =>
        simp at h1
        subst h1
        have ne := needed_ok h.tm
        have le := lleast_ok hn h.hb
        have lm := least_ok (n := n) (by omega) hl h.hb
        simp [ne, le, lm, fNe_self (shN (ND m n bs))]
        cases hL : LL n bs with
        | none => simpa [dLm] using hl2
        | some v =>
          obtain ⟨v1, v2⟩ := LL_in hL
          obtain ⟨e, rt⟩ := round_ok (m := v) (n := n) (bs := bs) ⟨by omega, by omega, hl, h.hb⟩
          rw [v2] at rt
          simp [dLm, LL_LM hL, rt, wD_eqM]
          exact hl2
end K53

namespace K53
open PySem PySem.Spec PyProof.Rows L2 DL
/-! drawn things -/
def badMin : List D := [.non, .int 1, .int 61, .bl true, .str "10", .tup [.int 10], .int (-5)]
theorem nomin_ok : Hd HO F__law_no_minutes [] (fun d => d ∈ badMin) := by
  refine Hd_of fun l hl => ?_
  unfold f__law_no_minutes
  simp
  refine okR.callH (anyL_ok (xs := badMin) (by simp [badMin]) (by decide)) rfl (by simp; exact ⟨rfl, rfl⟩) rfl hl ?_
  intro d l' hd hl'
  simp [hl', hd]
def badMany : List D := [.non, .int 0, .int 7, .bl true, .str "2", .tup [.int 2]]
theorem nomany_ok : Hd HO F__law_no_many [] (fun d => d ∈ badMany) := by
  refine Hd_of fun l hl => ?_
  unfold f__law_no_many
  simp
  refine okR.callH (anyL_ok (xs := badMany) (by simp [badMany]) (by decide)) rfl (by simp; exact ⟨rfl, rfl⟩) rfl hl ?_
  intro d l' hd hl'
  simp [hl', hd]
def dI4 (a b c d : Int) : D := .tup [.tup [.int a, .int b, .int c, .int d]]
def badBds (n : Int) : List D := [.non, .lst [], dI4 0 0 1 2, dI4 0 n 1 2, dI4 0 1 2 1, dI4 0 1 0 201, dI4 0 1 (-1) 2, .int 0] ++ [.tup [.tup [.int 0, .int 1, .int 2]], .tup [.lst [.int 0, .int 1, .int 0, .int 1]], .tup [.tup [.bl true, .int 1, .int 0, .int 1]], .tup [.tup [.int 0, .int 1, .str "0", .int 1]], .dk [] []]
theorem nobds_ok {n : Int} : Hd HO F__law_no_bounds [.int n] (fun d => d ∈ badBds n) := by
  refine Hd_of fun l hl => ?_
  unfold f__law_no_bounds
  simp
  refine okR.callH (anyL_ok (xs := badBds n) (by simp [badBds]) (by simp [badBds])) rfl (by simp; exact ⟨rfl, rfl⟩) rfl hl ?_
  intro d l' hd hl'
  simp [hl', hd]
theorem badMin_no {d : D} (h : d ∈ badMin) : plain d = true ∧ within d 2 60 = false := by
  simp only [badMin, List.mem_cons, List.not_mem_nil, or_false] at h
  rcases h with rfl | rfl | rfl | rfl | rfl | rfl | rfl <;> exact ⟨rfl, by decide⟩
theorem badMany_no {d : D} (h : d ∈ badMany) : plain d = true ∧ within d 1 6 = false := by
  simp only [badMany, List.mem_cons, List.not_mem_nil, or_false] at h
  rcases h with rfl | rfl | rfl | rfl | rfl | rfl <;> exact ⟨rfl, by decide⟩
theorem badBds_no {n : Int} {d : D} (h : d ∈ badBds n) : plain2 d = true ∧ boundsB n d = false := by
  simp only [badBds, List.mem_append, List.mem_cons, List.not_mem_nil, or_false] at h
  rcases h with (rfl | rfl | rfl | rfl | rfl | rfl | rfl | rfl) | rfl | rfl | rfl | rfl | rfl <;> exact ⟨rfl, by first | (simp [dI4, boundsB, boundB, sized, within, neI]; done) | (simp [dI4, boundsB, boundB, sized, within, neI]; omega)⟩

structure Asked (m n : Int) (bs : List Bd) : Prop where
  hm : 2 ≤ m ∧ m ≤ 7
  hn : 1 ≤ n ∧ n ≤ 4
  hl : bs.length ≤ 5
  hb : ∀ b ∈ bs, BdOk n b
theorem Asked.tt {m n : Int} {bs : List Bd} (h : Asked m n bs) : TtOk m n bs := ⟨⟨h.hm.1, by have := h.hm; omega⟩, ⟨h.hn.1, by have := h.hn; omega⟩, by have := h.hl; omega, h.hb⟩
theorem jmod {n i r : Int} (h1 : 1 < n) (i0 : 0 ≤ i) (i1 : i < n) (r0 : 0 ≤ r) (r1 : r < n - 1) : 0 ≤ (i + 1 + r) % n ∧ (i + 1 + r) % n < n ∧ i ≠ (i + 1 + r) % n := by
  refine ⟨Int.emod_nonneg _ (by omega), Int.emod_lt_of_pos _ (by omega), ?_⟩
  rcases Int.lt_or_le (i + 1 + r) n with h | h
  · rw [Int.emod_eq_of_lt (by omega) h]; omega
  · rw [show i + 1 + r = (i + 1 + r - n) + n by omega, Int.add_emod_right, Int.emod_eq_of_lt (by omega) (by omega)]; omega
def InvAs (m n : Int) (ds : List D) (S : Fs) : Prop := ∃ (l : List D) (bs : List Bd) (x i j w : SV), S = [.ow (some 0) (.lst l), .va (.int 6), .va (.int m), .va (.int n), .ow none (.lst (bs.map dB)), x, i, j, w] ∧ HO l ∧ bs.length + ds.length ≤ 5 ∧ (∀ b ∈ bs, BdOk n b) ∧ (ds ≠ [] → 1 < n)
def AskP (d : D) : Prop := ∃ m n bs, d = .tup [.int m, .int n, dBs bs] ∧ Asked m n bs
theorem asked_ok : Hd HO F__law_asked [.int 6] AskP := by
  refine Hd_of fun l hl => ?_
  unfold f__law_asked
  simp
  repeat rw [okR_bind']
  refine okR.callH (draw_ok (n := 6) (by omega) (by omega)) rfl (by simp <;> first | rfl | exact ⟨rfl, rfl⟩) rfl hl ?_
  rintro d l1 ⟨v, rfl, v0, v1⟩ hl1
  simp
  repeat rw [okR_bind']
  refine okR.callH (draw_ok (n := 4) (by omega) (by omega)) rfl (by simp <;> first | rfl | exact ⟨rfl, rfl⟩) rfl hl1 ?_
  rintro d l2 ⟨u, rfl, u0, u1⟩ hl2
  simp
  obtain ⟨m, em⟩ : ∃ m, 2 + v = m := ⟨_, rfl⟩
  obtain ⟨n, en⟩ : ∃ n, 1 + u = n := ⟨_, rfl⟩
  rw [em, en]
  have hm : 2 ≤ m ∧ m ≤ 7 := by omega
  have hn : 1 ≤ n ∧ n ≤ 4 := by omega
  have main : ∀ (k : Nat) (l' : List D), HO l' → k ≤ 5 → (0 < k → 1 < n) → okO (forF (fgVar 5) (nSeq (nAsg (fCallH F__law_draw 0 (aCons (fVar 3) aNil)) (fgVar 6)) (nSeq (nAsg (fOp fMod (fSo (fFn gInt (vCons (fSo (fOp fAdd (fSo (fOp fAdd (fSo (fVar 6)) (fSo (fC (.int 1))))) (fSo (fCallH F__law_draw 0 (aCons (fOp fSub (fSo (fVar 3)) (fSo (fC (.int 1)))) aNil))))) vNil))) (fSo (fVar 3))) (fgVar 7)) (nSeq (nAsg (fCallH F__law_draw 0 (aCons (fOp fMul (fSo (fC (.int 2))) (fSo (fVar 2))) aNil)) (fgVar 8)) (nDrop (fApp 4 (aCons (fTup (aCons (fVar 6) (aCons (fVar 7) (aCons (fVar 8) (aCons (fOp fAdd (fSo (fVar 8)) (fSo (fCallH F__law_any 0 (aCons (fLst (aCons (fC (.int 0)) (aCons (fC (.int 1)) (aCons (fC (.int 1)) (aCons (fC (.int 2)) (aCons (fVar 2) aNil)))))) aNil)))) aNil))))) aNil)))))) (rangeD 0 k) [SV.ow (some 0) (OD.lst l'), SV.va (D.int 6), SV.va (D.int m), SV.va (D.int n), SV.ow none (OD.lst []), SV.no, SV.no, SV.no, SV.no])
      { nx := fun S1 => okO (nRet (fTup (aCons (fVar 2) (aCons (fVar 3) (aCons (fFn gTuple (vCons (fSl 4) vNil)) aNil)))) S1) { nx := fun S => AskP .non ∧ ∃ l', getS S 0 = SV.ow (some 0) (OD.lst l') ∧ HO l', rt := fun d S => AskP d ∧ ∃ l', getS S 0 = SV.ow (some 0) (OD.lst l') ∧ HO l' }, rt := fun d S => AskP d ∧ ∃ l', getS S 0 = SV.ow (some 0) (OD.lst l') ∧ HO l' } := by
    intro k l' hl' hk hk2
    refine okO.for (InvAs m n) ?_ ?_ _ _ ?_
    · rintro d ds S ⟨l, bs, x, i0, j0, w0, rfl, hl, h1, h2, h3⟩
      have n1 := h3 (by simp)
      simp
      refine okR.callH (draw_ok (n := n) (by omega) (by omega)) rfl (by simp <;> first | rfl | exact ⟨rfl, rfl⟩) rfl hl ?_
      rintro d l3 ⟨i, rfl, i0, i1⟩ hl3
      simp
      repeat rw [okR_bind']
      refine okR.callH (draw_ok (n := n - 1) (by omega) (by omega)) rfl (by simp [z_sub] <;> first | rfl | exact ⟨rfl, rfl⟩) rfl hl3 ?_
      rintro d l4 ⟨r, rfl, r0, r1⟩ hl4
      obtain ⟨j0, j1, j2⟩ := jmod n1 i0 i1 r0 r1
      simp [z_mod (show (0 : Int) < n by omega)]
      generalize (i + 1 + r) % n = j at j0 j1 j2 ⊢
      repeat rw [okR_bind']
      refine okR.callH (draw_ok (n := 2 * m) (by omega) (by omega)) rfl (by simp [z_mulc' (show small 2 = true by decide)] <;> first | rfl | exact ⟨rfl, rfl⟩) rfl hl4 ?_
      rintro d l5 ⟨q, rfl, q0, q1⟩ hl5
      simp
      repeat rw [okR_bind']
      refine okR.callH (anyL_ok (xs := [.int 0, .int 1, .int 1, .int 2, .int m]) (by simp) (by simp)) rfl (by simp <;> first | rfl | exact ⟨rfl, rfl⟩) rfl hl5 ?_
      rintro d l6 hd hl6
      have hz : ∃ z, d = .int z ∧ 0 ≤ z ∧ z ≤ 8 := by
        simp only [List.mem_cons, List.not_mem_nil, or_false] at hd
        rcases hd with rfl | rfl | rfl | rfl | rfl <;> exact ⟨_, rfl, by omega, by omega⟩
      obtain ⟨z, rfl, z0, z1⟩ := hz
      simp at h1
      have sz : bs.length < 16777216 := by omega
      simp [sz]
      refine ⟨l6, bs ++ [(i, j, q, q + z)], _, _, _, _, by simp [dB]; exact ⟨rfl, rfl, rfl, rfl⟩, hl6, by simp; omega, fun b hb => ?_, fun _ => n1⟩
      rcases List.mem_append.mp hb with hb | hb
      · exact h2 b hb
      · simp only [List.mem_cons, List.not_mem_nil, or_false] at hb
        subst hb
        exact ⟨⟨i0, i1⟩, ⟨j0, j1⟩, j2, q0, by dsimp only; omega, by dsimp only; omega⟩
    · rintro S ⟨l, bs, x, i0, j0, w0, rfl, hl, h1, h2, h3⟩
      simp
      simp at h1
      exact ⟨⟨m, n, bs, rfl, hm, hn, h1, h2⟩, hl⟩
    · refine ⟨l', [], .no, .no, .no, .no, rfl, hl', by simpa [rangeD] using hk, (fun _ h => nomatch h), fun h => hk2 ?_⟩
      rcases Nat.eq_zero_or_pos k with z | z
      · subst z; exact absurd rfl h
      · exact z
  repeat rw [okR_bind']
  split
  · refine okR.callH (draw_ok (n := 6) (by omega) (by omega)) rfl (by simp <;> first | rfl | exact ⟨rfl, rfl⟩) rfl hl2 ?_
    rintro d l3 ⟨k, rfl, k0, k1⟩ hl3
    have r1 : (-4000000000000000000 : Int) ≤ k ∧ k ≤ 16777216 := by omega
    simp [r1]
    exact main k.toNat l3 hl3 (by omega) (fun _ => by omega)
  · simp
    exact main 0 l2 hl2 (by omega) (fun h => by omega)

theorem tt_x1 {a b c : D} (h : plain a = true ∧ within a 2 60 = false) : Fv F_check_timetable [a, b, c] = .ex "NoMinutes" [] := Fx_of (by
  unfold f_check_timetable
  simp [minutes_ok h.1, h.2])
theorem tt_x2 {m : Int} {b c : D} (hm : 2 ≤ m ∧ m ≤ 60) (h : plain b = true ∧ within b 1 6 = false) : Fv F_check_timetable [.int m, b, c] = .ex "NoEvents" [] := by
  have e1 : Fv F_check_minutes [.int m] = .ok .non := by rw [minutes_ok rfl, if_pos (by simp [within, hm])]
  have e2 : Fv F_check_bounds [b, c] = .ex "NoEvents" [] := by
    rw [bounds_ok h.1 fun z => by rw [h.2] at z; exact nomatch z]
    cases b <;> first | rfl | (unfold bdR; dsimp only; rw [if_neg (by rw [h.2]; exact Bool.false_ne_true)])
  exact Fx_of (by
    unfold f_check_timetable
    simp [e1, e2])
theorem tt_x3 {m n : Int} {c : D} (hm : 2 ≤ m ∧ m ≤ 60) (hn : 1 ≤ n ∧ n ≤ 6) (h : plain2 c = true ∧ boundsB n c = false) : Fv F_check_timetable [.int m, .int n, c] = .ex "NoBounds" [] := by
  have e1 : Fv F_check_minutes [.int m] = .ok .non := by rw [minutes_ok rfl, if_pos (by simp [within, hm])]
  have e2 : Fv F_check_bounds [.int n, c] = .ex "NoBounds" [] := by
    rw [bounds_ok rfl fun _ => h.1]
    unfold bdR; dsimp only
    rw [if_pos (by simp [within, hn]), h.2]; rfl
  exact Fx_of (by
    unfold f_check_timetable
    simp [e1, e2])
end K53

namespace K53
open PySem PySem.Spec PyProof.Rows L2 DL
/-! refusals -/
theorem win_x {a b c e : D} {x : Str} (h : Fv F_check_timetable [a, b, c] = .ex x []) : Fv F_windows [a, b, c, e] = .ex x [] := Fx_of (by
  unfold f_windows
  simp [h])
theorem win_x2 {m : Int} {n : Nat} {bs : List Bd} (h : Tm m n bs) {e : D} (hp : plain e = true) (hw : within e 0 ((n : Int) - 1) = false) : Fv F_windows [.int m, .int n, .tup (bs.map dB), e] = .ex "NoEvent" [] := Fx_of (by
  unfold f_windows
  simp [h.tt, within_ok hp, hw])
theorem need_x {a b c : D} {x : Str} (h : Fv F_check_timetable [a, b, c] = .ex x []) : Fv F_needed_bounds [a, b, c] = .ex x [] := Fx_of (by
  unfold f_needed_bounds
  simp [h])
theorem least_x {b c : D} (h : plain b = true ∧ within b 1 6 = false) : Fv F_least_minutes [b, c] = .ex "NoEvents" [] := by
  have e2 : Fv F_check_bounds [b, c] = .ex "NoEvents" [] := by
    rw [bounds_ok h.1 fun z => by rw [h.2] at z; exact nomatch z]
    cases b <;> first | rfl | (unfold bdR; dsimp only; rw [if_neg (by rw [h.2]; exact Bool.false_ne_true)])
  exact Fx_of (by
    unfold f_least_minutes
    simp [e2])
theorem least_x2 {n : Int} {c : D} (hn : 1 ≤ n ∧ n ≤ 6) (h : plain2 c = true ∧ boundsB n c = false) : Fv F_least_minutes [.int n, c] = .ex "NoBounds" [] := by
  have e2 : Fv F_check_bounds [.int n, c] = .ex "NoBounds" [] := by
    rw [bounds_ok rfl fun _ => h.1]
    unfold bdR; dsimp only
    rw [if_pos (by simp [within, hn]), h.2]; rfl
  exact Fx_of (by
    unfold f_least_minutes
    simp [e2])
theorem wx1 {fs : DFs} : wx__law_word_of "NoMinutes" fs = some (.str "minutes") := by kernel_rfl
theorem wx2 {fs : DFs} : wx__law_word_of "NoEvents" fs = some (.str "events") := by kernel_rfl
theorem wx3 {fs : DFs} : wx__law_word_of "NoBounds" fs = some (.str "bounds") := by kernel_rfl
theorem wx4 {fs : DFs} : wx__law_word_of "NoEvent" fs = some (.str "event") := by kernel_rfl
def oddE (n : Int) : List D := [.int (-1), .int n, .non, .bl true, .str "0"]
theorem oddE_no {n : Int} (hn : 1 ≤ n) {d : D} (h : d ∈ oddE n) : plain d = true ∧ within d 0 (n - 1) = false := by
  simp only [oddE, List.mem_cons, List.not_mem_nil, or_false] at h
  rcases h with rfl | rfl | rfl | rfl | rfl
  · exact ⟨rfl, by simp [within]⟩
  · exact ⟨rfl, by simp [within] <;> omega⟩
  · exact ⟨rfl, by simp [within]⟩
  · exact ⟨rfl, by simp [within]⟩
  · exact ⟨rfl, by simp [within]⟩
/-! the two examples -/
theorem exA : Tm 10 2 [(0, 1, 3, 4), (1, 0, 3, 4)] := ⟨by omega, by omega, by simp, fun b hb => by
  simp only [List.mem_cons, List.not_mem_nil, or_false] at hb
  rcases hb with rfl | rfl <;> simp [BdOk]⟩
theorem exB : Tm 10 2 [(0, 1, 3, 4), (1, 0, 5, 7)] := ⟨by omega, by omega, by simp, fun b hb => by
  simp only [List.mem_cons, List.not_mem_nil, or_false] at hb
  rcases hb with rfl | rfl <;> simp [BdOk]⟩
theorem exA_v : ND 10 2 [(0, 1, 3, 4), (1, 0, 3, 4)] = [0, 1] := by decide +kernel
theorem exB_v : WD 10 2 [(0, 1, 3, 4), (1, 0, 5, 7)] 1 = [3, 4] := by
  rw [← winE (by omega) (by omega) exB.hb (by omega)]
  decide +kernel
/-! the law -/
def few (n : Nat) (b : Bd) : Bool := decide (b.1 < n) && decide (b.2.1 < n)
def cutB (n : Nat) (bs : List Bd) : List Bd := (bs.filter (few n)).take 4
def fewD (n : Nat) (d : D) : Bool := match d with
  | .tup [.int i, .int j, .int _, .int _] => decide (i < n) && decide (j < n)
  | _ => false
theorem few_D {n : Nat} {bs : List Bd} : ((bs.map dB).filter (fewD n)).map (fun d => d) = (bs.filter (few n)).map dB := by
  rw [List.map_id', List.filter_map]
  rfl
theorem ask_of {m n : Int} {bs : List Bd} (h : Asked m n bs) : ∃ k : Nat, (if 3 < n then 3 else n) = (k : Int) ∧ Ask m k (cutB k bs) := by
  have hn := h.hn
  obtain ⟨k, hk⟩ := Int.eq_ofNat_of_zero_le (show 0 ≤ (if 3 < n then 3 else n) by split <;> omega)
  refine ⟨k, hk, h.hm, by split at hk <;> omega, List.length_take_le _ _, fun b hb => ?_⟩
  obtain ⟨q1, q2⟩ := List.mem_filter.mp (List.mem_of_mem_take hb)
  obtain ⟨⟨a1, a2⟩, ⟨b1, b2⟩, rest⟩ := h.hb b q1
  unfold few at q2
  simp at q2
  exact ⟨⟨a1, q2.1⟩, ⟨b1, q2.2⟩, rest⟩
def InvL (sc : SV) (ds : List D) (S : Fs) : Prop := ∃ (l : List D) (s2 s3 s4 s5 s6 s7 s8 s9 s10 : SV), S = [sc, .ow none (.lst l), s2, s3, s4, s5, s6, s7, s8, s9, s10, .no] ∧ HO l
theorem law_ok (ns : List Int) (hl : ns.length ≤ 63) : Fv F_law [.scr (ns.map D.int)] = .ok (.bl true) := by
  obtain ⟨l, hl, el⟩ := hand_ok ns hl
  refine Fv_of ?_
  unfold f_law
  simp [el]
  refine okO.for (InvL (.va (.scr (ns.map D.int)))) ?_ ?_ _ _ ⟨_, _, _, _, _, _, _, _, _, _, rfl, hl⟩
  · rintro d ds S ⟨l, s2, s3, s4, s5, s6, s7, s8, s9, s10, rfl, hl⟩
    simp
    refine okR.callH asked_ok rfl (by simp <;> first | rfl | exact ⟨rfl, rfl⟩) rfl hl ?_
    rintro d l1 ⟨m, n, bs, rfl, h⟩ hl1
    obtain ⟨k, hk, hA⟩ := ask_of h
    have hm := hA.hm
    have hn := hA.hn
    simp [dBs]
    rw [hk]
    rw [compRF (fun d => d) (fewD k) (by
      rintro d hd
      obtain ⟨b, _, rfl⟩ := List.mem_map.mp hd
      exact ⟨_, rfl, by by_cases q : b.1 < k <;> simp [dB, fewD, q], fun _ => by simp, by simp⟩), few_D]
    have ct : cutD ((bs.filter (few k)).map dB) none (some 4) = (cutB k bs).map dB := by
      rw [show (4 : Int) = ((4 : Nat) : Int) from rfl, cut_to, ← List.map_take]; rfl
    generalize bs.filter (few k) = fb at ct ⊢
    simp [ct]
    generalize cutB k bs = cs at ct hA ⊢
    repeat rw [okR_bind']
    refine okR.callH (right_ok hA) rfl (by simp <;> first | rfl | exact ⟨rfl, rfl⟩) rfl hl1 ?_
    rintro d1 l3 rfl hl3
    simp
    repeat rw [okR_bind']
    refine okR.callH nomin_ok rfl (by simp <;> first | rfl | exact ⟨rfl, rfl⟩) rfl hl3 ?_
    rintro d6 l6 h6 hl6
    simp
    repeat rw [okR_bind']
    refine okR.callH nomany_ok rfl (by simp <;> first | rfl | exact ⟨rfl, rfl⟩) rfl hl6 ?_
    rintro d7 l7 h7 hl7
    simp
    repeat rw [okR_bind']
    refine okR.callH (nobds_ok (n := (k : Int))) rfl (by simp <;> first | rfl | exact ⟨rfl, rfl⟩) rfl hl7 ?_
    rintro d8 l8 h8 hl8
    simp
    repeat rw [okR_bind']
    refine okR.callH (anyL_ok (xs := oddE k) (by simp [oddE]) (by simp [oddE])) rfl (by simp [oddE] <;> first | rfl | exact ⟨rfl, rfl⟩) rfl hl8 ?_
    intro d9 l9 h9 hl9
    obtain ⟨p9, w9⟩ := oddE_no (by omega) h9
    have y1 := win_x (e := d9) (tt_x1 (b := d7) (c := d8) (badMin_no h6))
    have y2 := win_x (e := d9) (tt_x2 (m := m) (c := d8) (by omega) (badMany_no h7))
    have y3 := win_x (e := d9) (tt_x3 (m := m) (n := k) (by omega) (by omega) (badBds_no h8))
    have y4 := win_x2 hA.tm p9 w9
    have y5 := least_x (c := d8) (badMany_no h7)
    have y6 := least_x2 (n := k) (by omega) (badBds_no h8)
    have y7 := need_x (tt_x1 (b := .int k) (c := .tup (cs.map dB)) (badMin_no h6))
    simp [fLstO, y1, y2, y3, y4, y5, y6, y7, wx1, wx2, wx3, wx4]
    rw [fNe_self (by kernel_rfl)]
    simp
    exact ⟨_, _, _, _, _, _, _, _, _, _, rfl, hl9⟩
  · rintro S ⟨l, s2, s3, s4, s5, s6, s7, s8, s9, s10, rfl, hl⟩
    have k1 := needed_ok exA
    have k2 := windows_ok exB (e := 1) (by omega)
    rw [exA_v] at k1
    rw [exB_v] at k2
    simp [dB, dNat] at k1 k2
    have n1 : fNe (D.tup [.int 0, .int 1]) (.tup [.int 0, .int 1]) Mn = some (.bl false) := fNe_self (by kernel_rfl)
    have n2 : fEq (D.tup [.int 3, .int 4]) (.tup [.int 3, .int 4]) Mn = some (.bl true) := fEq_self (by kernel_rfl)
    simp [k1, k2, n1, n2]
theorem holds : ∀ ns : List Int, ns.length ≤ 63 → (∀ z ∈ ns, Builtin.Int.intBits z ≤ 1048576) → ∃ S, F_law [.va (.scr (ns.map D.int))] = .ok (.bl true) S := by
  intro ns hl _
  have key := law_ok ns hl
  unfold Fv R.v at key
  simp only [List.map_cons, List.map_nil] at key
  cases e : F_law [.va (.scr (ns.map D.int))] with
  | ok d S => rw [e] at key; simp at key; subst key; exact ⟨S, rfl⟩
  | ex c fs S => rw [e] at key; simp at key
  | un => rw [e] at key; simp at key
end K53

namespace K53
open PySem PySem.Spec PyProof.Rows L2 DL
def dd_is_integer : He.DefD := ⟨("is_integer", none), "is_integer", "is_integer", defArgs s_is_integer, defBody s_is_integer, defScope s_is_integer, [], []⟩
def dd_is_within : He.DefD := ⟨("is_within", none), "is_within", "is_within", defArgs s_is_within, defBody s_is_within, defScope s_is_within, [], []⟩
def dd_check_minutes : He.DefD := ⟨("check_minutes", none), "check_minutes", "check_minutes", defArgs s_check_minutes, defBody s_check_minutes, defScope s_check_minutes, [], []⟩
def dd_is_sized : He.DefD := ⟨("is_sized", none), "is_sized", "is_sized", defArgs s_is_sized, defBody s_is_sized, defScope s_is_sized, [], []⟩
def dd_is_bound : He.DefD := ⟨("is_bound", none), "is_bound", "is_bound", defArgs s_is_bound, defBody s_is_bound, defScope s_is_bound, [], []⟩
def dd_check_bounds : He.DefD := ⟨("check_bounds", none), "check_bounds", "check_bounds", defArgs s_check_bounds, defBody s_check_bounds, defScope s_check_bounds, [], []⟩
def dd_check_timetable : He.DefD := ⟨("check_timetable", none), "check_timetable", "check_timetable", defArgs s_check_timetable, defBody s_check_timetable, defScope s_check_timetable, [], []⟩
def dd_possible_turns : He.DefD := ⟨("possible_turns", none), "possible_turns", "possible_turns", defArgs s_possible_turns, defBody s_possible_turns, defScope s_possible_turns, [], []⟩
def dd_links_of : He.DefD := ⟨("links_of", none), "links_of", "links_of", defArgs s_links_of, defBody s_links_of, defScope s_links_of, [], []⟩
def dd_settled : He.DefD := ⟨("settled", none), "settled", "settled", defArgs s_settled, defBody s_settled, defScope s_settled, [], []⟩
def dd_next_bound : He.DefD := ⟨("next_bound", none), "next_bound", "next_bound", defArgs s_next_bound, defBody s_next_bound, defScope s_next_bound, [], []⟩
def dd_put_together : He.DefD := ⟨("put_together", none), "put_together", "put_together", defArgs s_put_together, defBody s_put_together, defScope s_put_together, [], []⟩
def dd_raw_told : He.DefD := ⟨("raw_told", none), "raw_told", "raw_told", defArgs s_raw_told, defBody s_raw_told, defScope s_raw_told, [], []⟩
def dd_windows : He.DefD := ⟨("windows", none), "windows", "windows", defArgs s_windows, defBody s_windows, defScope s_windows, [], []⟩
def dd_least_minutes : He.DefD := ⟨("least_minutes", none), "least_minutes", "least_minutes", defArgs s_least_minutes, defBody s_least_minutes, defScope s_least_minutes, [], []⟩
def dd_needed_bounds : He.DefD := ⟨("needed_bounds", none), "needed_bounds", "needed_bounds", defArgs s_needed_bounds, defBody s_needed_bounds, defScope s_needed_bounds, [], []⟩
def dd__law_hand : He.DefD := ⟨("_law_hand", none), "_law_hand", "_law_hand", defArgs s__law_hand, defBody s__law_hand, defScope s__law_hand, [], []⟩
def dd__law_mixed : He.DefD := ⟨("_law_mixed", none), "_law_mixed", "_law_mixed", defArgs s__law_mixed, defBody s__law_mixed, defScope s__law_mixed, [], []⟩
def dd__law_draw : He.DefD := ⟨("_law_draw", none), "_law_draw", "_law_draw", defArgs s__law_draw, defBody s__law_draw, defScope s__law_draw, [], []⟩
def dd__law_any : He.DefD := ⟨("_law_any", none), "_law_any", "_law_any", defArgs s__law_any, defBody s__law_any, defScope s__law_any, [], []⟩
def dd__law_asked : He.DefD := ⟨("_law_asked", none), "_law_asked", "_law_asked", defArgs s__law_asked, defBody s__law_asked, defScope s__law_asked, [], []⟩
def dd__law_no_bounds : He.DefD := ⟨("_law_no_bounds", none), "_law_no_bounds", "_law_no_bounds", defArgs s__law_no_bounds, defBody s__law_no_bounds, defScope s__law_no_bounds, [], []⟩
def dd__law_no_minutes : He.DefD := ⟨("_law_no_minutes", none), "_law_no_minutes", "_law_no_minutes", defArgs s__law_no_minutes, defBody s__law_no_minutes, defScope s__law_no_minutes, [], []⟩
def dd__law_no_many : He.DefD := ⟨("_law_no_many", none), "_law_no_many", "_law_no_many", defArgs s__law_no_many, defBody s__law_no_many, defScope s__law_no_many, [], []⟩
def dd__law_word_of : He.DefD := ⟨("_law_word_of", none), "_law_word_of", "_law_word_of", defArgs s__law_word_of, defBody s__law_word_of, defScope s__law_word_of, [], []⟩
def dd_round_told : He.DefD := ⟨("round_told", none), "round_told", "round_told", defArgs s_round_told, defBody s_round_told, defScope s_round_told, [], []⟩
def dd__law_keeps : He.DefD := ⟨("_law_keeps", none), "_law_keeps", "_law_keeps", defArgs s__law_keeps, defBody s__law_keeps, defScope s__law_keeps, [], []⟩
def dd__law_all_times : He.DefD := ⟨("_law_all_times", none), "_law_all_times", "_law_all_times", defArgs s__law_all_times, defBody s__law_all_times, defScope s__law_all_times, [], []⟩
def dd__law_kept : He.DefD := ⟨("_law_kept", none), "_law_kept", "_law_kept", defArgs s__law_kept, defBody s__law_kept, defScope s__law_kept, [], []⟩
def dd__law_least : He.DefD := ⟨("_law_least", none), "_law_least", "_law_least", defArgs s__law_least, defBody s__law_least, defScope s__law_least, [], []⟩
def dd__law_is_right : He.DefD := ⟨("_law_is_right", none), "_law_is_right", "_law_is_right", defArgs s__law_is_right, defBody s__law_is_right, defScope s__law_is_right, [], []⟩
def dd_law : He.DefD := ⟨("law", none), "law", "law", defArgs s_law, defBody s_law, defScope s_law, [], []⟩
def fn : List He.DefD := ([dd_is_integer, dd_is_within, dd_check_minutes, dd_is_sized, dd_is_bound, dd_check_bounds, dd_check_timetable, dd_possible_turns, dd_links_of, dd_settled, dd_next_bound, dd_put_together, dd_raw_told, dd_windows, dd_least_minutes, dd_needed_bounds, dd__law_hand, dd__law_mixed, dd__law_draw, dd__law_any, dd__law_asked, dd__law_no_bounds, dd__law_no_minutes, dd__law_no_many, dd__law_word_of, dd_round_told, dd__law_keeps, dd__law_all_times, dd__law_kept, dd__law_least] : List He.DefD) ++ ([dd__law_is_right, dd_law] : List He.DefD)
def fa : List He.Fa := ([.glo "is_integer", .glo "is_within", .glo "check_minutes", .glo "is_sized", .glo "is_bound", .glo "check_bounds", .glo "check_timetable", .glo "possible_turns", .glo "links_of", .glo "settled", .glo "next_bound", .glo "put_together", .glo "raw_told", .glo "windows", .glo "least_minutes", .glo "needed_bounds", .glo "_law_hand", .glo "_law_mixed", .glo "_law_draw", .glo "_law_any", .glo "_law_asked", .glo "_law_no_bounds", .glo "_law_no_minutes", .glo "_law_no_many", .glo "_law_word_of", .glo "round_told", .glo "_law_keeps", .glo "_law_all_times", .glo "_law_kept", .glo "_law_least"] : List He.Fa) ++ ([.glo "_law_is_right", .glo "law", .glo "NoBounds", .exc "NoBounds", .glo "NoEvent", .exc "NoEvent", .glo "NoEvents", .exc "NoEvents", .glo "NoMinutes", .exc "NoMinutes", .glo "TrackError", .exc "TrackError", .exm "TrackError" "NoMinutes" false, .exm "NoBounds" "NoMinutes" false, .exm "NoEvent" "NoMinutes" false, .exm "NoEvents" "NoMinutes" false, .exm "NoMinutes" "NoMinutes" true, .exm "TooMany" "NoMinutes" false, .exm "TrackError" "NoEvents" false, .exm "NoBounds" "NoEvents" false, .exm "NoEvent" "NoEvents" false, .exm "NoEvents" "NoEvents" true, .exm "NoMinutes" "NoEvents" false, .exm "TooMany" "NoEvents" false, .exm "TrackError" "NoBounds" false, .exm "NoBounds" "NoBounds" true, .exm "NoEvent" "NoBounds" false, .exm "NoEvents" "NoBounds" false, .exm "NoMinutes" "NoBounds" false, .exm "TooMany" "NoBounds" false] : List He.Fa) ++ ([.exm "TrackError" "NoEvent" false, .exm "NoBounds" "NoEvent" false, .exm "NoEvent" "NoEvent" true, .exm "NoEvents" "NoEvent" false, .exm "NoMinutes" "NoEvent" false, .exm "TooMany" "NoEvent" false, .exm "TrackError" "TrackError" true, .exm "NoBounds" "TrackError" true, .exm "NoEvent" "TrackError" true, .exm "NoEvents" "TrackError" true, .exm "NoMinutes" "TrackError" true, .exm "TooMany" "TrackError" true, .free "abs", .free "all", .free "any", .free "bool", .free "enumerate", .free "int", .free "isinstance", .free "len", .free "list", .free "min", .free "range", .free "set", .free "sorted", .free "tuple", .str "HIGH" "high", .int "LEAST_MINUTES" 2, .str "LOW" "low", .int "MOST_BOUNDS" 10] : List He.Fa) ++ ([.int "MOST_EVENTS" 6, .int "MOST_LONG" 200, .int "MOST_MINUTES" 60, .int "MOST_TREES" 3000, .str "RING" "ring", .str "TIMES" "times", .str "TREE" "tree", .str "TURNS" "turns", .str "WIDE" "wide"] : List He.Fa)
def loose : List Str := (["is_integer", "is_within", "is_sized", "TrackError", "NoBounds", "NoEvent", "NoEvents", "NoMinutes", "TooMany", "LEAST_MINUTES", "MOST_MINUTES", "MOST_EVENTS", "MOST_BOUNDS", "MOST_LONG", "MOST_TREES", "TIMES", "TREE", "RING", "TURNS", "HIGH", "LOW", "WIDE", "check_minutes", "is_bound", "check_bounds", "check_timetable", "possible_turns", "links_of", "settled", "next_bound"] : List Str) ++ (["put_together", "raw_told", "round_told", "windows", "least_minutes", "needed_bounds", "_law_hand", "_law_mixed", "_law_draw", "_law_any", "_law_asked", "_law_keeps", "_law_all_times", "_law_kept", "_law_no_bounds", "_law_no_minutes", "_law_no_many", "_law_word_of", "_law_least", "_law_is_right"] : List Str)
def tf : List He.Defn := [("law", none)]
abbrev R0 : PySem.W.OpenRow := PySem.W.OpenLaw.row PySem.Challenge.rw_trackhouse_k53_whole_windows_and_least_m
abbrev hk : PySem.W.Hook := He.hookX 4 fa fn [] tf (lamEx tf)
def ob (s : PySem.W.SharedT) : He.AlX := He.obsX 4 fa fn [] tf (lamEx tf) (HandSHeadRun.getT s)
theorem ob_eq (s : PySem.W.SharedT) : ob s = hk.obs s.abs := He.obsX_eq (HandSHeadRun.getT_eq s)
theorem run (w : World) : HandSHeadRun.RunEq R0 (PySem.W.view R0.prog [54]) hk ob 3000 loose w := by
  intro os
  kernel_rfl
theorem all_ok {P : Program} {w : World} {K : PySem.W.Frag} {mg : Str → Option Value} {base : Heap} {T : List (Addr × Str)} (B : Bs K mg)
    (Z_is_integer : DefAt K mg "is_integer" s_is_integer) (Z_is_within : DefAt K mg "is_within" s_is_within) (Z_check_minutes : DefAt K mg "check_minutes" s_check_minutes) (Z_is_sized : DefAt K mg "is_sized" s_is_sized) (Z_is_bound : DefAt K mg "is_bound" s_is_bound) (Z_check_bounds : DefAt K mg "check_bounds" s_check_bounds) (Z_check_timetable : DefAt K mg "check_timetable" s_check_timetable) (Z_possible_turns : DefAt K mg "possible_turns" s_possible_turns) (Z_links_of : DefAt K mg "links_of" s_links_of) (Z_settled : DefAt K mg "settled" s_settled) (Z_next_bound : DefAt K mg "next_bound" s_next_bound) (Z_put_together : DefAt K mg "put_together" s_put_together) (Z_raw_told : DefAt K mg "raw_told" s_raw_told) (Z_windows : DefAt K mg "windows" s_windows) (Z_least_minutes : DefAt K mg "least_minutes" s_least_minutes) (Z_needed_bounds : DefAt K mg "needed_bounds" s_needed_bounds) (Z__law_hand : DefAt K mg "_law_hand" s__law_hand) (Z__law_mixed : DefAt K mg "_law_mixed" s__law_mixed) (Z__law_draw : DefAt K mg "_law_draw" s__law_draw) (Z__law_any : DefAt K mg "_law_any" s__law_any) (Z__law_asked : DefAt K mg "_law_asked" s__law_asked) (Z__law_no_bounds : DefAt K mg "_law_no_bounds" s__law_no_bounds) (Z__law_no_minutes : DefAt K mg "_law_no_minutes" s__law_no_minutes) (Z__law_no_many : DefAt K mg "_law_no_many" s__law_no_many) (Z__law_word_of : DefAt K mg "_law_word_of" s__law_word_of) (Z_round_told : DefAt K mg "round_told" s_round_told) (Z__law_keeps : DefAt K mg "_law_keeps" s__law_keeps) (Z__law_all_times : DefAt K mg "_law_all_times" s__law_all_times) (Z__law_kept : DefAt K mg "_law_kept" s__law_kept) (Z__law_least : DefAt K mg "_law_least" s__law_least) (Z__law_is_right : DefAt K mg "_law_is_right" s__law_is_right) (Z_law : DefAt K mg "law" s_law) (LB_law : LamAt K mg base T "law") (ga_law : mg "law" = some (.ref (He.ga K "law"))) :
    FnX P w K mg base T true 100 "law" ["script"] (fP K 1 F_law) := by
  have G_is_integer : FnX P w K mg base T false 1 "is_integer" ["thing"] (fP K 1 F_is_integer) := ok_is_integer (k := 0) B Z_is_integer 
  have G_is_within : FnX P w K mg base T false 2 "is_within" ["thing", "low", "high"] (fP K 3 F_is_within) := ok_is_within (k := 1) B Z_is_within (G_is_integer.up (k' := 1) rfl)
  have G_check_minutes : FnX P w K mg base T false 3 "check_minutes" ["minutes"] (fP K 1 F_check_minutes) := ok_check_minutes (k := 2) B Z_check_minutes (G_is_within.up (k' := 2) rfl)
  have G_is_sized : FnX P w K mg base T false 1 "is_sized" ["thing", "low", "high"] (fP K 3 F_is_sized) := ok_is_sized (k := 0) B Z_is_sized 
  have G_is_bound : FnX P w K mg base T false 3 "is_bound" ["many", "thing"] (fP K 2 F_is_bound) := ok_is_bound (k := 2) B Z_is_bound (G_is_within.up (k' := 2) rfl) (G_is_sized.up (k' := 2) rfl)
  have G_check_bounds : FnX P w K mg base T false 4 "check_bounds" ["many", "bounds"] (fP K 2 F_check_bounds) := ok_check_bounds (k := 3) B Z_check_bounds (G_is_within.up (k' := 3) rfl) (G_is_sized.up (k' := 3) rfl) (G_is_bound.up (k' := 3) rfl)
  have G_check_timetable : FnX P w K mg base T false 5 "check_timetable" ["minutes", "many", "bounds"] (fP K 3 F_check_timetable) := ok_check_timetable (k := 4) B Z_check_timetable (G_check_minutes.up (k' := 4) rfl) (G_check_bounds.up (k' := 4) rfl)
  have G_possible_turns : FnX P w K mg base T false 1 "possible_turns" ["minutes", "bound"] (fP K 2 F_possible_turns) := ok_possible_turns (k := 0) B Z_possible_turns 
  have G_links_of : FnX P w K mg base T false 1 "links_of" ["minutes", "many", "bounds", "told"] (fP K 4 F_links_of) := ok_links_of (k := 0) B Z_links_of 
  have G_settled : FnX P w K mg base T false 1 "settled" ["many", "links"] (fP K 2 F_settled) := ok_settled (k := 0) B Z_settled 
  have G_next_bound : FnX P w K mg base T false 1 "next_bound" ["minutes", "bounds", "told"] (fP K 3 F_next_bound) := ok_next_bound (k := 0) B Z_next_bound 
  have G_put_together : FnX P w K mg base T false 1 "put_together" ["notes"] (fP K 1 F_put_together) := ok_put_together (k := 0) B Z_put_together 
  have G_raw_told : FnX P w K mg base T false 2 "raw_told" ["minutes", "many", "bounds"] (fP K 3 F_raw_told) := ok_raw_told (k := 1) B Z_raw_told (G_possible_turns.up (k' := 1) rfl) (G_links_of.up (k' := 1) rfl) (G_settled.up (k' := 1) rfl) (G_next_bound.up (k' := 1) rfl) (G_put_together.up (k' := 1) rfl)
  have G_windows : FnX P w K mg base T false 6 "windows" ["minutes", "many", "bounds", "event"] (fP K 4 F_windows) := ok_windows (k := 5) B Z_windows (G_is_within.up (k' := 5) rfl) (G_check_timetable.up (k' := 5) rfl) (G_raw_told.up (k' := 5) rfl)
  have G_least_minutes : FnX P w K mg base T false 5 "least_minutes" ["many", "bounds"] (fP K 2 F_least_minutes) := ok_least_minutes (k := 4) B Z_least_minutes (G_check_bounds.up (k' := 4) rfl) (G_raw_told.up (k' := 4) rfl)
  have G_needed_bounds : FnX P w K mg base T false 6 "needed_bounds" ["minutes", "many", "bounds"] (fP K 3 F_needed_bounds) := ok_needed_bounds (k := 5) B Z_needed_bounds (G_check_timetable.up (k' := 5) rfl) (G_raw_told.up (k' := 5) rfl)
  have G__law_hand : FnX P w K mg base T false 1 "_law_hand" ["script"] (fPo K 1 F__law_hand) := ok__law_hand (k := 0) B Z__law_hand 
  have G__law_mixed : FnX P w K mg base T false 1 "_law_mixed" ["cell", "turn"] (fP K 2 F__law_mixed) := ok__law_mixed (k := 0) B Z__law_mixed 
  have G__law_draw : FnX P w K mg base T false 2 "_law_draw" ["hand", "many"] (fP K 2 F__law_draw) := ok__law_draw (k := 1) B Z__law_draw (G__law_mixed.up (k' := 1) rfl)
  have G__law_any : FnX P w K mg base T false 3 "_law_any" ["hand", "some"] (fP K 2 F__law_any) := ok__law_any (k := 2) B Z__law_any (G__law_draw.up (k' := 2) rfl)
  have G__law_asked : FnX P w K mg base T false 4 "_law_asked" ["hand", "most"] (fP K 2 F__law_asked) := ok__law_asked (k := 3) B Z__law_asked (G__law_draw.up (k' := 3) rfl) (G__law_any.up (k' := 3) rfl)
  have G__law_no_bounds : FnX P w K mg base T false 4 "_law_no_bounds" ["hand", "many"] (fP K 2 F__law_no_bounds) := ok__law_no_bounds (k := 3) B Z__law_no_bounds (G__law_any.up (k' := 3) rfl)
  have G__law_no_minutes : FnX P w K mg base T false 4 "_law_no_minutes" ["hand"] (fP K 1 F__law_no_minutes) := ok__law_no_minutes (k := 3) B Z__law_no_minutes (G__law_any.up (k' := 3) rfl)
  have G__law_no_many : FnX P w K mg base T false 4 "_law_no_many" ["hand"] (fP K 1 F__law_no_many) := ok__law_no_many (k := 3) B Z__law_no_many (G__law_any.up (k' := 3) rfl)
  have G_round_told : FnX P w K mg base T false 6 "round_told" ["minutes", "many", "bounds"] (fP K 3 F_round_told) := ok_round_told (k := 5) B Z_round_told (G_check_timetable.up (k' := 5) rfl) (G_raw_told.up (k' := 5) rfl)
  have G__law_keeps : FnX P w K mg base T false 1 "_law_keeps" ["minutes", "bound", "times"] (fP K 3 F__law_keeps) := ok__law_keeps (k := 0) B Z__law_keeps 
  have G__law_all_times : FnX P w K mg base T false 1 "_law_all_times" ["minutes", "many"] (fP K 2 F__law_all_times) := ok__law_all_times (k := 0) B Z__law_all_times 
  have G__law_kept : FnX P w K mg base T false 2 "_law_kept" ["minutes", "many", "bounds"] (fP K 3 F__law_kept) := ok__law_kept (k := 1) B Z__law_kept (G__law_keeps.up (k' := 1) rfl) (G__law_all_times.up (k' := 1) rfl)
  have G__law_least : FnX P w K mg base T false 3 "_law_least" ["many", "bounds"] (fP K 2 F__law_least) := ok__law_least (k := 2) B Z__law_least (G__law_kept.up (k' := 2) rfl)
  have G__law_is_right : FnX P w K mg base T false 7 "_law_is_right" ["hand", "minutes", "many", "bounds"] (fP K 4 F__law_is_right) := ok__law_is_right (k := 6) B Z__law_is_right (G_round_told.up (k' := 6) rfl) (G_windows.up (k' := 6) rfl) (G_least_minutes.up (k' := 6) rfl) (G_needed_bounds.up (k' := 6) rfl) (G__law_kept.up (k' := 6) rfl) (G__law_least.up (k' := 6) rfl)
  have G_law : FnX P w K mg base T false 10 "law" ["script"] (fP K 1 F_law) := ok_law (k := 7) B Z_law LB_law ga_law Z__law_word_of (G_windows.up (k' := 7) rfl) (G_least_minutes.up (k' := 7) rfl) (G_needed_bounds.up (k' := 7) rfl) (G__law_hand.up (k' := 7) rfl) (G__law_any.up (k' := 7) rfl) (G__law_asked.up (k' := 7) rfl) (G__law_no_bounds.up (k' := 7) rfl) (G__law_no_minutes.up (k' := 7) rfl) (G__law_no_many.up (k' := 7) rfl) (G__law_is_right.up (k' := 7) rfl)
  exact (G_law.up (k' := 100) rfl).tru
theorem facts {l : PySem.W.OpenLaw} {w : World} {K : PySem.W.Frag} {h : Heap} {mg : Str → Option Value} {f : Addr} (X : K.In h) (G : h.Ns mainGlobals mg) (hfa : mg ("law" : Str) = some (.ref f)) (c0 : He.SaysX fa fn [] tf (lamEx tf) w h K) (holds : ∀ ns : List Int, ns.length ≤ 63 → (∀ z ∈ ns, Builtin.Int.intBits z ≤ 1048576) → ∃ S, F_law [.va (.scr (ns.map D.int))] = .ok (.bl true) S) :
    LawG l w K 100 63 "script" "law" mg f h := by
  have c := c0.t.d
  have Z_is_integer := defAt_of (st := s_is_integer) X G (c.def_ 0 (d := dd_is_integer) rfl) (c.fact 0 (f := .glo "is_integer") rfl)
  have Z_is_within := defAt_of (st := s_is_within) X G (c.def_ 1 (d := dd_is_within) rfl) (c.fact 1 (f := .glo "is_within") rfl)
  have Z_check_minutes := defAt_of (st := s_check_minutes) X G (c.def_ 2 (d := dd_check_minutes) rfl) (c.fact 2 (f := .glo "check_minutes") rfl)
  have Z_is_sized := defAt_of (st := s_is_sized) X G (c.def_ 3 (d := dd_is_sized) rfl) (c.fact 3 (f := .glo "is_sized") rfl)
  have Z_is_bound := defAt_of (st := s_is_bound) X G (c.def_ 4 (d := dd_is_bound) rfl) (c.fact 4 (f := .glo "is_bound") rfl)
  have Z_check_bounds := defAt_of (st := s_check_bounds) X G (c.def_ 5 (d := dd_check_bounds) rfl) (c.fact 5 (f := .glo "check_bounds") rfl)
  have Z_check_timetable := defAt_of (st := s_check_timetable) X G (c.def_ 6 (d := dd_check_timetable) rfl) (c.fact 6 (f := .glo "check_timetable") rfl)
  have Z_possible_turns := defAt_of (st := s_possible_turns) X G (c.def_ 7 (d := dd_possible_turns) rfl) (c.fact 7 (f := .glo "possible_turns") rfl)
  have Z_links_of := defAt_of (st := s_links_of) X G (c.def_ 8 (d := dd_links_of) rfl) (c.fact 8 (f := .glo "links_of") rfl)
  have Z_settled := defAt_of (st := s_settled) X G (c.def_ 9 (d := dd_settled) rfl) (c.fact 9 (f := .glo "settled") rfl)
  have Z_next_bound := defAt_of (st := s_next_bound) X G (c.def_ 10 (d := dd_next_bound) rfl) (c.fact 10 (f := .glo "next_bound") rfl)
  have Z_put_together := defAt_of (st := s_put_together) X G (c.def_ 11 (d := dd_put_together) rfl) (c.fact 11 (f := .glo "put_together") rfl)
  have Z_raw_told := defAt_of (st := s_raw_told) X G (c.def_ 12 (d := dd_raw_told) rfl) (c.fact 12 (f := .glo "raw_told") rfl)
  have Z_windows := defAt_of (st := s_windows) X G (c.def_ 13 (d := dd_windows) rfl) (c.fact 13 (f := .glo "windows") rfl)
  have Z_least_minutes := defAt_of (st := s_least_minutes) X G (c.def_ 14 (d := dd_least_minutes) rfl) (c.fact 14 (f := .glo "least_minutes") rfl)
  have Z_needed_bounds := defAt_of (st := s_needed_bounds) X G (c.def_ 15 (d := dd_needed_bounds) rfl) (c.fact 15 (f := .glo "needed_bounds") rfl)
  have Z__law_hand := defAt_of (st := s__law_hand) X G (c.def_ 16 (d := dd__law_hand) rfl) (c.fact 16 (f := .glo "_law_hand") rfl)
  have Z__law_mixed := defAt_of (st := s__law_mixed) X G (c.def_ 17 (d := dd__law_mixed) rfl) (c.fact 17 (f := .glo "_law_mixed") rfl)
  have Z__law_draw := defAt_of (st := s__law_draw) X G (c.def_ 18 (d := dd__law_draw) rfl) (c.fact 18 (f := .glo "_law_draw") rfl)
  have Z__law_any := defAt_of (st := s__law_any) X G (c.def_ 19 (d := dd__law_any) rfl) (c.fact 19 (f := .glo "_law_any") rfl)
  have Z__law_asked := defAt_of (st := s__law_asked) X G (c.def_ 20 (d := dd__law_asked) rfl) (c.fact 20 (f := .glo "_law_asked") rfl)
  have Z__law_no_bounds := defAt_of (st := s__law_no_bounds) X G (c.def_ 21 (d := dd__law_no_bounds) rfl) (c.fact 21 (f := .glo "_law_no_bounds") rfl)
  have Z__law_no_minutes := defAt_of (st := s__law_no_minutes) X G (c.def_ 22 (d := dd__law_no_minutes) rfl) (c.fact 22 (f := .glo "_law_no_minutes") rfl)
  have Z__law_no_many := defAt_of (st := s__law_no_many) X G (c.def_ 23 (d := dd__law_no_many) rfl) (c.fact 23 (f := .glo "_law_no_many") rfl)
  have Z__law_word_of := defAt_of (st := s__law_word_of) X G (c.def_ 24 (d := dd__law_word_of) rfl) (c.fact 24 (f := .glo "_law_word_of") rfl)
  have Z_round_told := defAt_of (st := s_round_told) X G (c.def_ 25 (d := dd_round_told) rfl) (c.fact 25 (f := .glo "round_told") rfl)
  have Z__law_keeps := defAt_of (st := s__law_keeps) X G (c.def_ 26 (d := dd__law_keeps) rfl) (c.fact 26 (f := .glo "_law_keeps") rfl)
  have Z__law_all_times := defAt_of (st := s__law_all_times) X G (c.def_ 27 (d := dd__law_all_times) rfl) (c.fact 27 (f := .glo "_law_all_times") rfl)
  have Z__law_kept := defAt_of (st := s__law_kept) X G (c.def_ 28 (d := dd__law_kept) rfl) (c.fact 28 (f := .glo "_law_kept") rfl)
  have Z__law_least := defAt_of (st := s__law_least) X G (c.def_ 29 (d := dd__law_least) rfl) (c.fact 29 (f := .glo "_law_least") rfl)
  have Z__law_is_right := defAt_of (st := s__law_is_right) X G (c.def_ 30 (d := dd__law_is_right) rfl) (c.fact 30 (f := .glo "_law_is_right") rfl)
  have Z_law := defAt_of (st := s_law) X G (c.def_ 31 (d := dd_law) rfl) (c.fact 31 (f := .glo "law") rfl)
  have B : Bs K mg := ⟨He.free_ok X G (c.fact 72 (f := .free "abs") rfl), He.free_ok X G (c.fact 73 (f := .free "all") rfl), He.free_ok X G (c.fact 74 (f := .free "any") rfl), He.free_ok X G (c.fact 75 (f := .free "bool") rfl), He.free_ok X G (c.fact 76 (f := .free "enumerate") rfl), He.free_ok X G (c.fact 77 (f := .free "int") rfl), He.free_ok X G (c.fact 78 (f := .free "isinstance") rfl), He.free_ok X G (c.fact 79 (f := .free "len") rfl), He.free_ok X G (c.fact 80 (f := .free "list") rfl), He.free_ok X G (c.fact 81 (f := .free "min") rfl), He.free_ok X G (c.fact 82 (f := .free "range") rfl), He.free_ok X G (c.fact 83 (f := .free "set") rfl), He.free_ok X G (c.fact 84 (f := .free "sorted") rfl), He.free_ok X G (c.fact 85 (f := .free "tuple") rfl), He.str_ok X G (c.fact 86 (f := .str "HIGH" "high") rfl), He.int_ok X G (c.fact 87 (f := .int "LEAST_MINUTES" 2) rfl), He.str_ok X G (c.fact 88 (f := .str "LOW" "low") rfl), He.int_ok X G (c.fact 89 (f := .int "MOST_BOUNDS" 10) rfl), He.int_ok X G (c.fact 90 (f := .int "MOST_EVENTS" 6) rfl), He.int_ok X G (c.fact 91 (f := .int "MOST_LONG" 200) rfl), He.int_ok X G (c.fact 92 (f := .int "MOST_MINUTES" 60) rfl), He.int_ok X G (c.fact 93 (f := .int "MOST_TREES" 3000) rfl), He.str_ok X G (c.fact 94 (f := .str "RING" "ring") rfl), He.str_ok X G (c.fact 95 (f := .str "TIMES" "times") rfl), He.str_ok X G (c.fact 96 (f := .str "TREE" "tree") rfl), He.str_ok X G (c.fact 97 (f := .str "TURNS" "turns") rfl), He.str_ok X G (c.fact 98 (f := .str "WIDE" "wide") rfl), excAt_of X G (c.fact 32 (f := .glo "NoBounds") rfl) (c.fact 33 (f := .exc "NoBounds") rfl), excAt_of X G (c.fact 34 (f := .glo "NoEvent") rfl) (c.fact 35 (f := .exc "NoEvent") rfl), excAt_of X G (c.fact 36 (f := .glo "NoEvents") rfl) (c.fact 37 (f := .exc "NoEvents") rfl), excAt_of X G (c.fact 38 (f := .glo "NoMinutes") rfl) (c.fact 39 (f := .exc "NoMinutes") rfl), excAt_of X G (c.fact 40 (f := .glo "TrackError") rfl) (c.fact 41 (f := .exc "TrackError") rfl), (WHok.cons (em1 (show ExM K "NoMinutes" "NoMinutes" true from He.exm_ok (c.fact 46 (f := .exm "NoMinutes" "NoMinutes" true) rfl)) em0) (em1 (show ExM K "TrackError" "NoMinutes" false from He.exm_ok (c.fact 42 (f := .exm "TrackError" "NoMinutes" false) rfl)) (em1 (show ExM K "NoBounds" "NoMinutes" false from He.exm_ok (c.fact 43 (f := .exm "NoBounds" "NoMinutes" false) rfl)) (em1 (show ExM K "NoEvent" "NoMinutes" false from He.exm_ok (c.fact 44 (f := .exm "NoEvent" "NoMinutes" false) rfl)) (em1 (show ExM K "NoEvents" "NoMinutes" false from He.exm_ok (c.fact 45 (f := .exm "NoEvents" "NoMinutes" false) rfl)) (em1 (show ExM K "TooMany" "NoMinutes" false from He.exm_ok (c.fact 47 (f := .exm "TooMany" "NoMinutes" false) rfl)) em0))))) (WHok.cons (em1 (show ExM K "NoEvents" "NoEvents" true from He.exm_ok (c.fact 51 (f := .exm "NoEvents" "NoEvents" true) rfl)) em0) (em1 (show ExM K "TrackError" "NoEvents" false from He.exm_ok (c.fact 48 (f := .exm "TrackError" "NoEvents" false) rfl)) (em1 (show ExM K "NoBounds" "NoEvents" false from He.exm_ok (c.fact 49 (f := .exm "NoBounds" "NoEvents" false) rfl)) (em1 (show ExM K "NoEvent" "NoEvents" false from He.exm_ok (c.fact 50 (f := .exm "NoEvent" "NoEvents" false) rfl)) (em1 (show ExM K "NoMinutes" "NoEvents" false from He.exm_ok (c.fact 52 (f := .exm "NoMinutes" "NoEvents" false) rfl)) (em1 (show ExM K "TooMany" "NoEvents" false from He.exm_ok (c.fact 53 (f := .exm "TooMany" "NoEvents" false) rfl)) em0))))) (WHok.cons (em1 (show ExM K "NoBounds" "NoBounds" true from He.exm_ok (c.fact 55 (f := .exm "NoBounds" "NoBounds" true) rfl)) em0) (em1 (show ExM K "TrackError" "NoBounds" false from He.exm_ok (c.fact 54 (f := .exm "TrackError" "NoBounds" false) rfl)) (em1 (show ExM K "NoEvent" "NoBounds" false from He.exm_ok (c.fact 56 (f := .exm "NoEvent" "NoBounds" false) rfl)) (em1 (show ExM K "NoEvents" "NoBounds" false from He.exm_ok (c.fact 57 (f := .exm "NoEvents" "NoBounds" false) rfl)) (em1 (show ExM K "NoMinutes" "NoBounds" false from He.exm_ok (c.fact 58 (f := .exm "NoMinutes" "NoBounds" false) rfl)) (em1 (show ExM K "TooMany" "NoBounds" false from He.exm_ok (c.fact 59 (f := .exm "TooMany" "NoBounds" false) rfl)) em0))))) (WHok.cons (em1 (show ExM K "NoEvent" "NoEvent" true from He.exm_ok (c.fact 62 (f := .exm "NoEvent" "NoEvent" true) rfl)) em0) (em1 (show ExM K "TrackError" "NoEvent" false from He.exm_ok (c.fact 60 (f := .exm "TrackError" "NoEvent" false) rfl)) (em1 (show ExM K "NoBounds" "NoEvent" false from He.exm_ok (c.fact 61 (f := .exm "NoBounds" "NoEvent" false) rfl)) (em1 (show ExM K "NoEvents" "NoEvent" false from He.exm_ok (c.fact 63 (f := .exm "NoEvents" "NoEvent" false) rfl)) (em1 (show ExM K "NoMinutes" "NoEvent" false from He.exm_ok (c.fact 64 (f := .exm "NoMinutes" "NoEvent" false) rfl)) (em1 (show ExM K "TooMany" "NoEvent" false from He.exm_ok (c.fact 65 (f := .exm "TooMany" "NoEvent" false) rfl)) em0))))) (WHok.cons (em1 (show ExM K "TrackError" "TrackError" true from He.exm_ok (c.fact 66 (f := .exm "TrackError" "TrackError" true) rfl)) (em1 (show ExM K "NoBounds" "TrackError" true from He.exm_ok (c.fact 67 (f := .exm "NoBounds" "TrackError" true) rfl)) (em1 (show ExM K "NoEvent" "TrackError" true from He.exm_ok (c.fact 68 (f := .exm "NoEvent" "TrackError" true) rfl)) (em1 (show ExM K "NoEvents" "TrackError" true from He.exm_ok (c.fact 69 (f := .exm "NoEvents" "TrackError" true) rfl)) (em1 (show ExM K "NoMinutes" "TrackError" true from He.exm_ok (c.fact 70 (f := .exm "NoMinutes" "TrackError" true) rfl)) (em1 (show ExM K "TooMany" "TrackError" true from He.exm_ok (c.fact 71 (f := .exm "TooMany" "TrackError" true) rfl)) em0)))))) em0 WHok.nil)))))⟩
  refine lawF (tf := tf) (F := F_law) X hfa c0.hd c0.out c0.empty holds fun base _ _ tb => ?_
  exact all_ok B Z_is_integer Z_is_within Z_check_minutes Z_is_sized Z_is_bound Z_check_bounds Z_check_timetable Z_possible_turns Z_links_of Z_settled Z_next_bound Z_put_together Z_raw_told Z_windows Z_least_minutes Z_needed_bounds Z__law_hand Z__law_mixed Z__law_draw Z__law_any Z__law_asked Z__law_no_bounds Z__law_no_minutes Z__law_no_many Z__law_word_of Z_round_told Z__law_keeps Z__law_all_times Z__law_kept Z__law_least Z__law_is_right Z_law (lamAt_of (tf := tf) (by decide) c0.more tb) (He.glo_ok X G (c.fact 31 (f := .glo "law") rfl))
end K53
open PySem PySem.W PySem.Calls PyProof.Rows
theorem PySem.Challenge.cw_trackhouse_k53_whole_windows_and_least_m_holds : PySem.Challenge.rw_trackhouse_k53_whole_windows_and_least_m.Holds := by
  w_on; o_law
  refine HandSHeadRun.head_any (r := OpenLaw.row PySem.Challenge.rw_trackhouse_k53_whole_windows_and_least_m) (q := view (OpenLaw.row PySem.Challenge.rw_trackhouse_k53_whole_windows_and_least_m).prog [54]) (H := K53.hk) (ob := K53.ob) (M := 3000) (loose := K53.loose) (d := HandSHeadRun.topDef (OpenLaw.row PySem.Challenge.rw_trackhouse_k53_whole_windows_and_least_m).prog 54) (kwd := []) K53.ob_eq
    (by kernel_rfl) (fun s => by kernel_rfl) K53.run (by kernel_rfl) (by kernel_rfl) (by kernel_rfl) (by rfl) (by first | assumption | decide +kernel) (by decide +kernel) ⟨rfl, rfl, rfl, rfl, rfl, by decide +kernel⟩ ?hw ?hc
  case hw => w_witness2
  case hc =>
    refine DL.walk_ofG (l := PySem.Challenge.rw_trackhouse_k53_whole_windows_and_least_m) (n := 63) (k := 100) (x := "script") (xl := "law") rfl (by decide) (by kernel_rfl) ⟨rfl, by decide, by decide⟩ ?F
    intro w mg fa h Y G hmg0
    obtain ⟨K, KX, c⟩ := Y
    have hmg : mg ("law" : PySem.Str) = some (.ref fa) := by
      have e : (HandSHeadRun.topDef (OpenLaw.row PySem.Challenge.rw_trackhouse_k53_whole_windows_and_least_m).prog 54).name = ("law" : PySem.Str) := by kernel_rfl
      rw [← e]
      exact hmg0
    exact ⟨K, KX, K53.facts KX G hmg c K53.holds⟩

