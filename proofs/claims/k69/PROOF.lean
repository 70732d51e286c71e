import PyProof.Rows.All
import Wide.All
import OpenK.AllK
import Wide.FinOn
import HandS.ForMost
import HandS.Exc
import HandS.CallSlots
import HandS.Lambda
import HandS.Zip
import HandS.TupAny
import HandS.TupMul
import HandS.Deep
import HandS.IsInst
import KE.SortData
import HandS.TupSets
import HandS.EndTab
import KE.KStateDown
import HandS.Defaults
import HandS.Head0
import HandS.Head1
import HandS.Head2
import HandS.HeadEnd
import HandS.HeadHook1
import HandS.HeadHook2
import HandS.HeadHook3
import HandS.HeadHook4
import KE.LtData
import KE.DataCmp
import HandS.TupLe
import HandS.Style
import PySem.Challenge.RW_trackhouse_k69_whole_shut_gates
set_option Elab.async false
set_option linter.all false
set_option maxRecDepth 100000
set_option maxHeartbeats 8000000
/-! Data over the hand layer: values with their tuples and fixed lists told as a whole (D), the objects that are changed (M). -/
namespace DL
open PySem PySem.Spec PyProof.Rows L2

/-- a value with all that it is made of; ref: an object that may be changed, a def, a class -/
inductive D where
  | non | bl (b : Bool) | int (i : Int) | str (s : Str) | tup (xs : List D) | lst (xs : List D) | scr (xs : List D) | ref (a : Addr) | ty (n : String)

/-- an object that may be changed -/
inductive OD where
  | lst (xs : List D)
  | ins (cl : Addr) (fs : List (Str × D))
  | priv

abbrev Mp := Addr → Option OD
def put (M : Mp) (a : Addr) (o : OD) : Mp := fun b => if b = a then some o else M b
def del (M : Mp) (a : Addr) : Mp := fun b => if b = a then none else M b
theorem put_same {M : Mp} {a : Addr} {o : OD} : put M a o a = some o := if_pos rfl
theorem put_ne {M : Mp} {a b : Addr} {o : OD} (h : b ≠ a) : put M a o b = M b := if_neg h
theorem put_put {M : Mp} {a : Addr} {o u : OD} : put (put M a o) a u = put M a u := by
  funext b; unfold put; split <;> rfl
theorem del_put {M : Mp} {a : Addr} {o : OD} (h : M a = none) : del (put M a o) a = M := by
  funext b; unfold del put; split
  · rename_i e; rw [e, h]
  · rfl
theorem del_same {M : Mp} {a : Addr} : del M a a = none := if_pos rfl
theorem del_ne {M : Mp} {a b : Addr} (h : b ≠ a) : del M a b = M b := if_neg h
theorem put_comm {M : Mp} {a b : Addr} {o u : OD} (h : a ≠ b) : put (put M a o) b u = put (put M b u) a o := by
  funext c; unfold put; split <;> split <;> first | rfl | (rename_i p q; exact absurd (q.symm.trans p) h)
theorem ne_fresh {M : Mp} {a p : Addr} {o : OD} (h : M a = some o) (hp : M p = none) : a ≠ p := by
  intro e; subst e; rw [h] at hp; cases hp
/-- less is known -/
def Sub (M N : Mp) : Prop := ∀ a o, M a = some o → N a = some o
theorem Sub.refl {M : Mp} : Sub M M := fun _ _ h => h
theorem Sub.trans {M N R : Mp} (a : Sub M N) (b : Sub N R) : Sub M R := fun c o h => b c o (a c o h)
theorem Sub.put {M N : Mp} {p : Addr} {o : OD} (h : Sub M N) (hp : M p = none) : Sub M (put N p o) := fun b u q => by
  rw [put_ne (ne_fresh q hp)]; exact h b u q
theorem Sub.del {M N : Mp} {p : Addr} (h : Sub M N) (hp : M p = none) : Sub M (DL.del N p) := fun b u q => by
  rw [del_ne (ne_fresh q hp)]; exact h b u q
theorem Sub.free {M N : Mp} {p : Addr} (h : Sub M N) (hp : N p = none) : M p = none := by
  cases e : M p with
  | none => rfl
  | some o => rw [h p o e] at hp; cases hp

section
variable (K : PySem.W.Frag) (H : Hp) (M : Mp)
/-- a list that nobody changes -/
def LsAt (a : Addr) (vs : List V) : Prop := M a = none ∧ H a = some (.lst vs)
/-- .. that may be locked, or the module's -/
def ScAt (a : Addr) (vs : List V) : Prop := (M a = none ∧ Rd H a (.lst vs)) ∨
  (∃ (o : Obj) (its : Array Value) (n : Nat), K.lookup a = some o ∧ o.cls = .type "list" ∧ o.dict = none ∧ o.data = .seq its n ∧ its.size ≤ sizeLine ∧ Vals vs its.toList)
def TpAt (a : Addr) (vs : List V) : Prop := (M a = none ∧ Rd H a (.tup vs)) ∨
  (∃ (o : Obj) (its : Array Value) (n : Nat), K.lookup a = some o ∧ o.cls = .type "tuple" ∧ o.data = .seq its n ∧ its.size ≤ sizeLine ∧ Vals vs its.toList)
mutual
/-- v bears d -/
def Den : D → V → Prop
  | .non, v => v = .non
  | .bl b, v => v = .bl b
  | .int i, v => v = .int i
  | .str s, v => v = .str s
  | .ty n, v => v = .ty n
  | .ref a, v => v = .ref a
  | .tup ds, v => ∃ a vs, v = .ref a ∧ TpAt K H M a vs ∧ DenL ds vs
  | .lst ds, v => ∃ a vs, v = .ref a ∧ LsAt H M a vs ∧ DenL ds vs
  | .scr ds, v => ∃ a vs, v = .ref a ∧ ScAt K H M a vs ∧ DenL ds vs
def DenL : List D → List V → Prop
  | [], vs => vs = []
  | d :: ds, vs => ∃ v r, vs = v :: r ∧ Den d v ∧ DenL ds r
end
end
variable {K : PySem.W.Frag} {H H' H2 : Hp} {M M' M2 : Mp}
theorem LsAt.sq {a : Addr} {vs : List V} (h : LsAt H M a vs) : SqL K H a vs := .inl (.inl h.2)
theorem ScAt.sq {a : Addr} {vs : List V} (h : ScAt K H M a vs) : SqL K H a vs := h.elim (fun h => .inl h.2) .inr
theorem TpAt.sq {a : Addr} {vs : List V} (h : TpAt K H M a vs) : SqT K H a vs := h.elim (fun h => .inl h.2) .inr

/-- nobody may change it -/
def Fx (x : Option OD) : Prop := x = none ∨ x = some .priv
/-- what stands and is not told as changing stands on -/
def Keep (H : Hp) (M : Mp) (H' : Hp) (M' : Mp) : Prop :=
  ∀ a o, H a = some o → Fx (M a) → (M' a = none ∨ M' a = M a) ∧ (H' a = some o ∨ ∃ ps qs, o = .tbl ps ∧ H' a = some (.tbl qs))
theorem Keep.refl : Keep H M H M := fun a o h n => ⟨.inr rfl, .inl h⟩
theorem Keep.trans (x : Keep H M H' M') (y : Keep H' M' H2 M2) : Keep H M H2 M2 := fun a o h n => by
  obtain ⟨n1, h1⟩ := x a o h n
  have f1 : Fx (M' a) := n1.elim .inl fun z => z ▸ n
  have up : (M2 a = none ∨ M2 a = M' a) → (M2 a = none ∨ M2 a = M a) := fun z => z.elim .inl fun z => n1.elim (fun w => .inl (z.trans w)) fun w => .inr (z.trans w)
  rcases h1 with h1 | ⟨ps, qs, e, h1⟩
  · obtain ⟨n2, h2⟩ := y a o h1 f1
    exact ⟨up n2, h2⟩
  · obtain ⟨n2, h2⟩ := y a _ h1 f1
    refine ⟨up n2, .inr ?_⟩
    rcases h2 with h2 | ⟨p2, q2, e2, h2⟩
    · exact ⟨ps, qs, e, h2⟩
    · exact ⟨ps, q2, e, h2⟩
theorem Keep.at0 {a : Addr} {u : HO} (k : Keep H M H' M') (hn : M a = none) (h : H a = some u) : M' a = none ∧ (H' a = some u ∨ ∃ ps qs, u = .tbl ps ∧ H' a = some (.tbl qs)) :=
  let ⟨n, e⟩ := k a u h (.inl hn); ⟨n.elim id fun z => z.trans hn, e⟩
theorem Keep.rd {a : Addr} {u : HO} (k : Keep H M H' M') (hn : M a = none) (h : Rd H a u) (nt : ∀ ps, u ≠ .tbl ps) : M' a = none ∧ Rd H' a u := by
  rcases h with h | ⟨o, h⟩
  · obtain ⟨n, e⟩ := k.at0 hn h
    refine ⟨n, .inl ?_⟩
    rcases e with e | ⟨ps, qs, e, _⟩
    · exact e
    · exact absurd e (nt ps)
  · obtain ⟨n, e⟩ := k.at0 hn h
    refine ⟨n, .inr ⟨o, ?_⟩⟩
    rcases e with e | ⟨ps, qs, e, _⟩
    · exact e
    · cases e
/-- what nobody may change stands on -/
def KeepR (H : Hp) (M : Mp) (H' : Hp) (M' : Mp) : Prop := ∀ a u, H a = some u → M a = none → (∀ ps, u ≠ .tbl ps) → M' a = none ∧ H' a = some u
theorem Keep.r (k : Keep H M H' M') : KeepR H M H' M' := fun a u h n nt => let ⟨n', e⟩ := k.at0 n h; ⟨n', e.elim id fun ⟨ps, _, z, _⟩ => absurd z (nt ps)⟩
theorem KeepR.rd {a : Addr} {u : HO} (k : KeepR H M H' M') (hn : M a = none) (h : Rd H a u) (nt : ∀ ps, u ≠ .tbl ps) : M' a = none ∧ Rd H' a u := by
  rcases h with h | ⟨o, h⟩
  · obtain ⟨n, e⟩ := k a u h hn nt
    exact ⟨n, .inl e⟩
  · obtain ⟨n, e⟩ := k a _ h hn fun _ z => nomatch z
    exact ⟨n, .inr ⟨o, e⟩⟩
theorem LsAt.keepR {a : Addr} {vs : List V} (k : KeepR H M H' M') (h : LsAt H M a vs) : LsAt H' M' a vs := k a _ h.2 h.1 fun _ z => nomatch z
theorem ScAt.keepR {a : Addr} {vs : List V} (k : KeepR H M H' M') (h : ScAt K H M a vs) : ScAt K H' M' a vs :=
  h.elim (fun h => .inl (k.rd h.1 h.2 fun _ z => nomatch z)) .inr
theorem TpAt.keepR {a : Addr} {vs : List V} (k : KeepR H M H' M') (h : TpAt K H M a vs) : TpAt K H' M' a vs :=
  h.elim (fun h => .inl (k.rd h.1 h.2 fun _ z => nomatch z)) .inr
mutual
theorem Den.keepR (k : KeepR H M H' M') : ∀ (d : D) {v : V}, Den K H M d v → Den K H' M' d v
  | .non, _, h => by simpa only [Den] using h
  | .bl _, _, h => by simpa only [Den] using h
  | .int _, _, h => by simpa only [Den] using h
  | .str _, _, h => by simpa only [Den] using h
  | .ty _, _, h => by simpa only [Den] using h
  | .ref _, _, h => by simpa only [Den] using h
  | .tup ds, _, h => by
    simp only [Den] at h ⊢
    obtain ⟨a, vs, e, t, l⟩ := h
    exact ⟨a, vs, e, t.keepR k, DenL.keepR k ds l⟩
  | .lst ds, _, h => by
    simp only [Den] at h ⊢
    obtain ⟨a, vs, e, t, l⟩ := h
    exact ⟨a, vs, e, t.keepR k, DenL.keepR k ds l⟩
  | .scr ds, _, h => by
    simp only [Den] at h ⊢
    obtain ⟨a, vs, e, t, l⟩ := h
    exact ⟨a, vs, e, t.keepR k, DenL.keepR k ds l⟩
theorem DenL.keepR (k : KeepR H M H' M') : ∀ (ds : List D) {vs : List V}, DenL K H M ds vs → DenL K H' M' ds vs
  | [], _, h => by simpa only [DenL] using h
  | d :: ds, _, h => by
    simp only [DenL] at h ⊢
    obtain ⟨v, r, e, x, y⟩ := h
    exact ⟨v, r, e, Den.keepR k d x, DenL.keepR k ds y⟩
end
theorem TpAt.keep {a : Addr} {vs : List V} (k : Keep H M H' M') (h : TpAt K H M a vs) : TpAt K H' M' a vs := h.keepR k.r
theorem Den.keep (k : Keep H M H' M') (d : D) {v : V} (h : Den K H M d v) : Den K H' M' d v := Den.keepR k.r d h
theorem DenL.keep (k : Keep H M H' M') (ds : List D) {vs : List V} (h : DenL K H M ds vs) : DenL K H' M' ds vs := DenL.keepR k.r ds h
theorem DenL.nil : DenL K H M [] [] := by simp only [DenL]
theorem DenL.cons {d : D} {ds : List D} {v : V} {vs : List V} (a : Den K H M d v) (b : DenL K H M ds vs) : DenL K H M (d :: ds) (v :: vs) := by
  simp only [DenL]; exact ⟨v, vs, rfl, a, b⟩
theorem DenL.length : ∀ {ds : List D} {vs : List V}, DenL K H M ds vs → vs.length = ds.length
  | [], _, h => by simp only [DenL] at h; subst h; rfl
  | d :: ds, _, h => by
    simp only [DenL] at h
    obtain ⟨v, r, rfl, _, y⟩ := h
    simp [DenL.length y]
theorem DenL.get : ∀ {ds : List D} {vs : List V} {i : Nat} {d : D}, DenL K H M ds vs → ds[i]? = some d → ∃ v, vs[i]? = some v ∧ Den K H M d v
  | [], _, _, _, _, e => by simp at e
  | d :: ds, _, 0, _, h, e => by
    simp only [DenL] at h
    obtain ⟨v, r, rfl, x, _⟩ := h
    simp at e; subst e
    exact ⟨v, rfl, x⟩
  | d :: ds, _, i + 1, _, h, e => by
    simp only [DenL] at h
    obtain ⟨v, r, rfl, _, y⟩ := h
    obtain ⟨v', e', x⟩ := DenL.get (i := i) y (by simpa using e)
    exact ⟨v', by simpa using e', x⟩
theorem DenL.get' {ds : List D} {vs : List V} {i : Nat} {v : V} (h : DenL K H M ds vs) (e : vs[i]? = some v) : ∃ d, ds[i]? = some d ∧ Den K H M d v := by
  have hi : i < ds.length := by rw [← h.length]; exact (List.getElem?_eq_some_iff.mp e).1
  obtain ⟨v', e', x⟩ := h.get (i := i) (d := ds[i]) (by simp [hi])
  rw [e] at e'; cases e'
  exact ⟨_, by simp [hi], x⟩
theorem DenL.append : ∀ {ds es : List D} {vs us : List V}, DenL K H M ds vs → DenL K H M es us → DenL K H M (ds ++ es) (vs ++ us)
  | [], _, _, _, h, h' => by simp only [DenL] at h; subst h; simpa using h'
  | d :: ds, _, _, _, h, h' => by
    simp only [DenL] at h
    obtain ⟨v, r, rfl, x, y⟩ := h
    exact DenL.cons x (DenL.append y h')
theorem DenL.split : ∀ {ds es : List D} {vs : List V}, DenL K H M (ds ++ es) vs → ∃ us ws, vs = us ++ ws ∧ DenL K H M ds us ∧ DenL K H M es ws
  | [], _, vs, h => ⟨[], vs, rfl, DenL.nil, h⟩
  | d :: ds, _, _, h => by
    rw [List.cons_append] at h
    simp only [DenL] at h
    obtain ⟨v, r, rfl, x, y⟩ := h
    obtain ⟨us, ws, rfl, p, q⟩ := DenL.split y
    exact ⟨v :: us, ws, rfl, DenL.cons x p, q⟩
theorem DenL.take {ds : List D} {vs : List V} (n : Nat) (h : DenL K H M ds vs) : DenL K H M (ds.take n) (vs.take n) := by
  rw [← List.take_append_drop n ds] at h
  obtain ⟨us, ws, e, p, q⟩ := DenL.split h
  have l := p.length
  by_cases hn : n ≤ ds.length
  · have e2 : us.length = n := by rw [l, List.length_take]; omega
    rw [e, ← e2, List.take_left']
    · rw [e2]; exact p
    · rfl
  · have e3 : ds.drop n = [] := List.drop_eq_nil_of_le (by omega)
    rw [e3] at q
    simp only [DenL] at q
    subst q
    rw [List.append_nil] at e
    subst e
    rw [List.length_take] at l
    rw [List.take_of_length_le (by omega : ds.length ≤ n)] at p ⊢
    rw [List.take_of_length_le (by omega)]
    exact p
theorem DenL.drop {ds : List D} {vs : List V} (n : Nat) (h : DenL K H M ds vs) : DenL K H M (ds.drop n) (vs.drop n) := by
  have h0 := h
  rw [← List.take_append_drop n ds] at h
  obtain ⟨us, ws, e, p, q⟩ := DenL.split h
  have l := p.length
  by_cases hn : n ≤ ds.length
  · have e2 : us.length = n := by rw [l, List.length_take]; omega
    rw [e, ← e2, List.drop_left']
    · rw [e2]; exact q
    · rfl
  · rw [List.drop_eq_nil_of_le (by omega), List.drop_eq_nil_of_le (by rw [h0.length]; omega)]
    exact DenL.nil
theorem DenL.reverse : ∀ {ds : List D} {vs : List V}, DenL K H M ds vs → DenL K H M ds.reverse vs.reverse
  | [], _, h => by simp only [DenL] at h; subst h; exact DenL.nil
  | d :: ds, _, h => by
    simp only [DenL] at h
    obtain ⟨v, r, rfl, x, y⟩ := h
    rw [List.reverse_cons, List.reverse_cons]
    exact (DenL.reverse y).append (DenL.cons x DenL.nil)
theorem DenL.set : ∀ {ds : List D} {vs : List V} {i : Nat} {d : D} {v : V}, DenL K H M ds vs → Den K H M d v → DenL K H M (ds.set i d) (vs.set i v)
  | [], _, _, _, _, h, _ => by simp only [DenL] at h; subst h; exact DenL.nil
  | d :: ds, _, 0, _, _, h, q => by
    simp only [DenL] at h
    obtain ⟨v, r, rfl, x, y⟩ := h
    exact DenL.cons q y
  | d :: ds, _, i + 1, _, _, h, q => by
    simp only [DenL] at h
    obtain ⟨v, r, rfl, x, y⟩ := h
    exact DenL.cons x (DenL.set y q)
theorem DenL.of_get : ∀ {ds : List D} {vs : List V}, vs.length = ds.length → (∀ (i : Nat) (d : D) (v : V), ds[i]? = some d → vs[i]? = some v → Den K H M d v) → DenL K H M ds vs
  | [], [], _, _ => DenL.nil
  | d :: ds, v :: vs, hl, h => DenL.cons (h 0 d v rfl rfl) (DenL.of_get (by simpa using hl) fun i d' v' a b => h (i + 1) d' v' (by simpa using a) (by simpa using b))
  | [], _ :: _, hl, _ => by simp at hl
  | _ :: _, [], hl, _ => by simp at hl

/-- the attributes of an instance -/
def FsR (K : PySem.W.Frag) (H : Hp) (M : Mp) : List (Str × D) → List (Str × V) → Prop
  | [], gs => gs = []
  | (f, d) :: fs, gs => ∃ v r, gs = (f, v) :: r ∧ Den K H M d v ∧ FsR K H M fs r
theorem FsR.keepR (k : KeepR H M H' M') : ∀ {fs : List (Str × D)} {gs : List (Str × V)}, FsR K H M fs gs → FsR K H' M' fs gs
  | [], _, h => h
  | (f, d) :: fs, _, h => by
    obtain ⟨v, r, rfl, x, y⟩ := h
    exact ⟨v, r, rfl, Den.keepR k d x, FsR.keepR k y⟩
theorem FsR.keep (k : Keep H M H' M') {fs : List (Str × D)} {gs : List (Str × V)} (h : FsR K H M fs gs) : FsR K H' M' fs gs := FsR.keepR k.r h
/-- an object that may be changed, at a -/
def ObD (K : PySem.W.Frag) (H : Hp) (M : Mp) (a : Addr) : OD → Prop
  | .lst ds => ∃ vs, H a = some (.lst vs) ∧ DenL K H M ds vs
  | .ins cl fs => ∃ dx gs, H a = some (.ins cl dx gs) ∧ H dx = some (.own a) ∧ M dx = none ∧ FsR K H M fs gs
  | .priv => ∃ vs, H a = some (.lst vs)
def Abs (K : PySem.W.Frag) (H : Hp) (M : Mp) : Prop := ∀ a o, M a = some o → ObD K H M a o
theorem ObD.there {a : Addr} {o : OD} (h : ObD K H M a o) : ∃ u, H a = some u ∧ Mut (some u) := by
  cases o with
  | lst ds => obtain ⟨vs, e, _⟩ := h; exact ⟨_, e, trivial⟩
  | ins cl fs => obtain ⟨dx, gs, e, _⟩ := h; exact ⟨_, e, trivial⟩
  | priv => obtain ⟨vs, e⟩ := h; exact ⟨_, e, trivial⟩
theorem Abs.free (h : Abs K H M) {p : Addr} (hp : H p = none) : M p = none := by
  cases e : M p with
  | none => rfl
  | some o => obtain ⟨u, e', _⟩ := (h p o e).there; rw [hp] at e'; cases e'
theorem Keep.sub (h : Sub M' M) : Keep H M H M' := fun a o e n => ⟨by
  cases q : M' a with
  | none => exact .inl rfl
  | some u => exact .inr (h a u q).symm, .inl e⟩
theorem Abs.sub (h : Abs K H M) (s : Sub M' M) : Abs K H M' := fun a o e => by
  have q := h a o (s a o e)
  cases o with
  | lst ds => obtain ⟨vs, e, l⟩ := q; exact ⟨vs, e, l.keep (Keep.sub s)⟩
  | ins cl fs => obtain ⟨dx, gs, e, w, n, l⟩ := q; exact ⟨dx, gs, e, w, s.free n, l.keep (Keep.sub s)⟩
  | priv => exact q
/-- a new object that is fixed (a tuple, a fixed list) -/
theorem Keep.new {p : Addr} {o : HO} (a : Abs K H M) (hp : H p = none) : Keep H M (upd H p o) M := fun b u e n => by
  refine ⟨.inr rfl, .inl ?_⟩
  rw [upd_ne (ne_of_none e hp)]; exact e
theorem ObD.keepR {a : Addr} {o : OD} (k : KeepR H M H' M') (hH : H' a = H a) (h : ObD K H M a o) : ObD K H' M' a o := by
  cases o with
  | lst ds => obtain ⟨vs, e, l⟩ := h; exact ⟨vs, hH.trans e, DenL.keepR k ds l⟩
  | ins cl fs =>
    obtain ⟨dx, gs, e, w, n, l⟩ := h
    obtain ⟨n', w'⟩ := k dx _ w n fun _ z => nomatch z
    exact ⟨dx, gs, hH.trans e, w', n', l.keepR k⟩
  | priv => obtain ⟨vs, e⟩ := h; exact ⟨vs, hH.trans e⟩
theorem ObD.keep {a : Addr} {o : OD} (k : Keep H M H' M') (hH : H' a = H a) (h : ObD K H M a o) : ObD K H' M' a o := h.keepR k.r hH
theorem Abs.new {p : Addr} {o : HO} (a : Abs K H M) (hp : H p = none) : Abs K (upd H p o) M := fun b u e => by
  have q := a b u e
  obtain ⟨w, hw, _⟩ := q.there
  exact q.keep (Keep.new a hp) (upd_ne (ne_of_none hw hp))
/-- a new object that may be changed -/
theorem Keep.mut {p : Addr} {o : HO} {u : OD} (a : Abs K H M) (hp : H p = none) : Keep H M (upd H p o) (put M p u) := fun b w e n => by
  have ne := ne_of_none e hp
  exact ⟨.inr (put_ne ne), .inl (by rw [upd_ne ne]; exact e)⟩
/-- one object's telling is put in: the others' stand -/
theorem Abs.at {p : Addr} {u : OD} (a : Abs K H M) (k : Keep H M H' (DL.put M p u)) (hH : ∀ b, b ≠ p → (M b).isSome → H' b = H b) (q : ObD K H' (DL.put M p u) p u) : Abs K H' (DL.put M p u) := fun b o e => by
  by_cases hb : b = p
  · subst hb
    rw [put_same] at e; cases e
    exact q
  · rw [put_ne hb] at e
    exact (a b o e).keep k (hH b hb (by rw [e]; rfl))
/-- a new list -/
theorem Abs.lst {p : Addr} {vs : List V} {ds : List D} (a : Abs K H M) (hp : H p = none) (l : DenL K H M ds vs) : Abs K (upd H p (.lst vs)) (DL.put M p (.lst ds)) :=
  a.at (Keep.mut a hp) (fun b hb _ => upd_ne hb) ⟨vs, upd_same, l.keep (Keep.mut a hp)⟩
theorem Abs.privs {p : Addr} {vs : List V} (a : Abs K H M) (hp : H p = none) : Abs K (upd H p (.lst vs)) (DL.put M p .priv) :=
  a.at (Keep.mut a hp) (fun b hb _ => upd_ne hb) ⟨vs, upd_same⟩
/-- a list that may be changed is changed -/
theorem Keep.write {p : Addr} {o : HO} {u w : OD} (hM : M p = some w) (hw : w ≠ .priv) : Keep H M (upd H p o) (DL.put M p u) := fun b x e n => by
  have ne : b ≠ p := fun z => by
    rw [z, hM] at n
    rcases n with n | n
    · cases n
    · exact hw (Option.some.inj n)
  exact ⟨.inr (put_ne ne), .inl (by rw [upd_ne ne]; exact e)⟩
theorem Abs.write {p : Addr} {vs : List V} {ds : List D} {w : OD} (a : Abs K H M) (hM : M p = some w) (hw : w ≠ .priv) (l : DenL K H M ds vs) : Abs K (upd H p (.lst vs)) (DL.put M p (.lst ds)) :=
  a.at (Keep.write hM hw) (fun b hb _ => upd_ne hb) ⟨vs, upd_same, l.keep (Keep.write hM hw)⟩
/-- it is fixed from now on -/
theorem Keep.fix {p : Addr} : Keep H M H (DL.del M p) := fun b x e n => by
  refine ⟨?_, .inl e⟩
  by_cases hb : b = p
  · rw [hb, del_same]; exact .inl rfl
  · exact .inr (del_ne hb)
theorem Sub.of_del {p : Addr} : Sub (DL.del M p) M := fun b o e => by
  by_cases hb : b = p
  · rw [hb, del_same] at e; cases e
  · rw [del_ne hb] at e; exact e
theorem Abs.fix {p : Addr} (a : Abs K H M) : Abs K H (DL.del M p) := a.sub Sub.of_del
theorem Den.fix {p : Addr} {ds : List D} (a : Abs K H M) (hM : M p = some (.lst ds)) : Den K H (DL.del M p) (.lst ds) (.ref p) := by
  obtain ⟨vs, e, l⟩ := a p _ hM
  simp only [Den]
  exact ⟨p, vs, rfl, ⟨del_same, e⟩, l.keep Keep.fix⟩

/-! ### the names -/
abbrev Sd := List (Option D)
def EnvR (K : PySem.W.Frag) (H : Hp) (M : Mp) (τ : Sd) (σ : L2.St) : Prop := τ.length = σ.length ∧ ∀ (i : Nat) (d : D), τ[i]? = some (some d) → ∃ v, σ[i]? = some (some v) ∧ Den K H M d v
theorem EnvR.keepR {τ : Sd} {σ : L2.St} (k : KeepR H M H' M') (h : EnvR K H M τ σ) : EnvR K H' M' τ σ := ⟨h.1, fun i d e => let ⟨v, e', q⟩ := h.2 i d e; ⟨v, e', Den.keepR k d q⟩⟩
theorem EnvR.keep {τ : Sd} {σ : L2.St} (k : Keep H M H' M') (h : EnvR K H M τ σ) : EnvR K H' M' τ σ := h.keepR k.r
theorem EnvR.set {τ : Sd} {σ : L2.St} {i : Nat} {d : D} {v : V} (h : EnvR K H M τ σ) (q : Den K H M d v) : EnvR K H M (τ.set i (some d)) (σ.set i (some v)) := by
  refine ⟨by simp [h.1], fun j e hj => ?_⟩
  by_cases hi : i = j
  · subst hi
    by_cases hl : i < τ.length
    · rw [List.getElem?_set_self hl] at hj; cases hj
      exact ⟨v, List.getElem?_set_self (by rw [← h.1]; exact hl), q⟩
    · rw [List.getElem?_eq_none (by simpa using hl)] at hj; cases hj
  · rw [List.getElem?_set_ne hi] at hj ⊢
    exact h.2 j e hj
theorem EnvR.unset {τ : Sd} {σ : L2.St} {i : Nat} (h : EnvR K H M τ σ) : EnvR K H M (τ.set i none) (σ.set i none) := by
  refine ⟨by simp [h.1], fun j e hj => ?_⟩
  by_cases hi : i = j
  · subst hi
    by_cases hl : i < τ.length
    · rw [List.getElem?_set_self hl] at hj; cases hj
    · rw [List.getElem?_eq_none (by simpa using hl)] at hj; cases hj
  · rw [List.getElem?_set_ne hi] at hj ⊢
    exact h.2 j e hj
/-- fewer names are known -/
def Less (τ' τ : Sd) : Prop := τ'.length = τ.length ∧ ∀ (i : Nat) (d : D), τ'[i]? = some (some d) → τ[i]? = some (some d)
theorem Less.refl {τ : Sd} : Less τ τ := ⟨rfl, fun _ _ h => h⟩
theorem EnvR.less {τ τ' : Sd} {σ : L2.St} (h : EnvR K H M τ σ) (l : Less τ' τ) : EnvR K H M τ' σ := ⟨l.1.trans h.1, fun i d e => h.2 i d (l.2 i d e)⟩
def startD (N : List Str) (ds : List D) : Sd := ds.map some ++ List.replicate (N.length - ds.length) none
theorem EnvR.start {N : List Str} {ds : List D} {vs : List V} (l : DenL K H M ds vs) : EnvR K H M (startD N ds) (L2.start N vs) := by
  have hl := l.length
  refine ⟨by simp [startD, L2.start, hl], fun i d e => ?_⟩
  unfold startD at e
  by_cases hi : i < ds.length
  · rw [List.getElem?_append_left (by simpa using hi), List.getElem?_map] at e
    cases q : ds[i]? with
    | none => rw [q] at e; cases e
    | some d' =>
      rw [q] at e; cases e
      obtain ⟨v, e', x⟩ := l.get q
      refine ⟨v, ?_, x⟩
      unfold L2.start
      rw [List.getElem?_append_left (by rw [List.length_map, hl]; exact hi), List.getElem?_map, e']
      rfl
  · rw [List.getElem?_append_right (by simpa using hi), List.getElem?_replicate] at e
    split at e <;> cases e
end DL

/-! Judgements over data. -/
namespace DL
open PySem PySem.Spec PyProof.Rows L2

abbrev DFs := List (Str × D)
abbrev DK := D → Mp → Prop
/-- what is wanted of an exception: its class, its fields, what changed -/
abbrev DX := Value → DFs → Mp → Prop
abbrev DE := Sd → Mp → DK → DX → Prop
abbrev DT := Sd → Mp → (Bool → Mp → Prop) → DX → Prop
abbrev DA := Sd → Mp → (List D → Mp → Prop) → DX → Prop
structure DEnds where
  nx : Sd → Mp → Prop
  rt : DK
  bk : Sd → Mp → Prop := fun _ _ => False
  ct : Sd → Mp → Prop := fun _ _ => False
  ex : Value → DFs → Sd → Mp → Prop
abbrev DS := DEnds → Sd → Mp → Prop

def MonoE (t : DE) : Prop := ∀ (τ : Sd) (M : Mp) (Q Q' : DK) (E E' : DX), (∀ d M', Q d M' → Q' d M') → (∀ c fs M', E c fs M' → E' c fs M') → t τ M Q E → t τ M Q' E'
def MonoT (t : DT) : Prop := ∀ (τ : Sd) (M : Mp) (Q Q' : Bool → Mp → Prop) (E E' : DX), (∀ d M', Q d M' → Q' d M') → (∀ c fs M', E c fs M' → E' c fs M') → t τ M Q E → t τ M Q' E'
def MonoA (t : DA) : Prop := ∀ (τ : Sd) (M : Mp) (Q Q' : List D → Mp → Prop) (E E' : DX), (∀ d M', Q d M' → Q' d M') → (∀ c fs M', E c fs M' → E' c fs M') → t τ M Q E → t τ M Q' E'
structure DEnds.Le (a b : DEnds) : Prop where
  nx : ∀ τ M, a.nx τ M → b.nx τ M
  rt : ∀ d M, a.rt d M → b.rt d M
  bk : ∀ τ M, a.bk τ M → b.bk τ M
  ct : ∀ τ M, a.ct τ M → b.ct τ M
  ex : ∀ c fs τ M, a.ex c fs τ M → b.ex c fs τ M
def MonoS (t : DS) : Prop := ∀ (a b : DEnds) (τ : Sd) (M : Mp), a.Le b → t a τ M → t b τ M

/-- an exception's own dict -/
def XDen (K : PySem.W.Frag) (H : Hp) (M : Mp) (od : Option Addr) (fs : DFs) : Prop :=
  (od = none ∧ fs = []) ∨ ∃ d gs, od = some d ∧ H d = some (.xd gs) ∧ M d = none ∧ FsR K H M fs gs

/-- a context: a hand context, the tables, what changed when the def was entered, what is wanted of exceptions; the level -/
structure DC where
  X : Cx
  T : List (Addr × Str)
  M0 : Mp
  W : Value → DFs → Sd → Mp → Prop
  lv : Nat
  dp : X.A.depth + 3 * lv + 5 < recursionLimit
  un : X.A.units + 16 * lv + 200 < cLine
  gd : X.A.guards = some []
  nd : X.N.Nodup
  po : PassesOwn (model X.prog X.w) X.A X.env X.xe
  tk : Takes X fun cls od σ H => ∃ τ M fs, EnvR X.K H M τ σ ∧ (Keep X.H_0 M0 H M ∧ Abs X.K H M ∧ LamX.Tabs T H) ∧ XDen X.K H M od fs ∧ W cls fs τ M
/-- the state is told -/
structure SR (C : DC) (H : Hp) (M : Mp) : Prop where
  keep : Keep C.X.H_0 C.M0 H M
  abs : Abs C.X.K H M
  tab : LamX.Tabs C.T H
structure GoK (K : PySem.W.Frag) (T : List (Addr × Str)) (H : Hp) (M : Mp) (H' : Hp) (M' : Mp) : Prop where
  keep : Keep H M H' M'
  abs : Abs K H' M'
  tab : LamX.Tabs T H'
abbrev Go (C : DC) (H : Hp) (M : Mp) (H' : Hp) (M' : Mp) : Prop := GoK C.X.K C.T H M H' M'
section
variable {C : DC} {H H' H2 : Hp} {M M' M2 : Mp}
theorem SR.go (r : SR C H M) (g : Go C H M H' M') : SR C H' M' := ⟨r.keep.trans g.keep, g.abs, g.tab⟩
theorem Go.refl (r : SR C H M) : Go C H M H M := ⟨Keep.refl, r.abs, r.tab⟩
theorem Go.trans (a : Go C H M H' M') (b : Go C H' M' H2 M2) : Go C H M H2 M2 := ⟨a.keep.trans b.keep, b.abs, b.tab⟩
theorem Go.sub (a : Go C H M H' M') (s : Sub M2 M') : Go C H M H' M2 := ⟨a.keep.trans (Keep.sub s), a.abs.sub s, a.tab⟩
theorem TabsUpd {T : List (Addr × Str)} {p : Addr} {o : HO} (t : LamX.Tabs T H) (hp : H p = none ∨ ∃ vs, H p = some (.lst vs)) (ho : ∀ ps, o ≠ .tbl ps) : LamX.Tabs T (upd H p o) := fun q hq => by
  obtain ⟨ps, h1, h2, h3⟩ := t q hq
  have ne : ∀ b u, H b = some u → (∀ vs, u ≠ .lst vs) → b ≠ p := fun b u e n z => by
    rw [z] at e
    rcases hp with h | ⟨vs, h⟩
    · rw [h] at e; cases e
    · rw [h] at e; cases e; exact n vs rfl
  refine ⟨ps, by rw [upd_ne (ne _ _ h1 fun _ z => nomatch z)]; exact h1, h2, fun pos cv hc => ?_⟩
  obtain ⟨c, e1, e2⟩ := h3 pos cv hc
  exact ⟨c, e1, by rw [upd_ne (ne _ _ e2 fun vs z => by unfold LamX.CodeO at z; cases z)]; exact e2⟩
theorem Go.new {p : Addr} {o : HO} (r : SR C H M) (hp : H p = none) (ho : ∀ ps, o ≠ .tbl ps) : Go C H M (upd H p o) M := ⟨Keep.new r.abs hp, r.abs.new hp, TabsUpd r.tab (.inl hp) ho⟩
theorem SR.at (a : Abs C.X.K H M) (t : LamX.Tabs C.T H) : Go C H M H M := ⟨Keep.refl, a, t⟩
end

/-- an expression's end -/
def EPD (C : DC) (pins : List (Addr × Obj)) (σ : L2.St) (H : Hp) (M : Mp) (Q : DK) (u : Value) (s' : Shared) : Prop :=
  ∃ v H' d M', Inv C.X pins σ H' s' ∧ RelV v u ∧ Go C H M H' M' ∧ Den C.X.K H' M' d v ∧ Q d M'
def TPD (C : DC) (pins : List (Addr × Obj)) (σ : L2.St) (H : Hp) (M : Mp) (Q : Bool → Mp → Prop) (b : Bool) (s' : Shared) : Prop :=
  ∃ H' M', Inv C.X pins σ H' s' ∧ Go C H M H' M' ∧ Q b M'
def APD (C : DC) (pins : List (Addr × Obj)) (σ : L2.St) (H : Hp) (M : Mp) (Q : List D → Mp → Prop) (us : List Value) (s' : Shared) : Prop :=
  ∃ vs H' ds M', Inv C.X pins σ H' s' ∧ Vals vs us ∧ Go C H M H' M' ∧ DenL C.X.K H' M' ds vs ∧ Q ds M'
abbrev xw (C : DC) (τ : Sd) : DX := fun c fs M' => C.W c fs τ M'
structure DPE (C : DC) (e : Expr) (t : DE) : Prop where
  mono : MonoE t
  go : ∀ (pins : List (Addr × Obj)) (s : Shared) (σ : L2.St) (H : Hp) (τ : Sd) (M : Mp) (Q : DK), Inv C.X pins σ H s → EnvR C.X.K H M τ σ → SR C H M → t τ M Q (xw C τ) →
    wpAny (model C.X.prog C.X.w) C.X.A (eval e C.X.env) (EPD C pins σ H M Q) C.X.xe s
structure DPT (C : DC) (e : Expr) (t : DT) : Prop where
  mono : MonoT t
  go : ∀ (whole : Sem Value) (pins : List (Addr × Obj)) (s : Shared) (σ : L2.St) (H : Hp) (τ : Sd) (M : Mp) (Q : Bool → Mp → Prop), (whole = eval e C.X.env ∨ ∃ op es pos, e = .BoolOp op es pos) → Inv C.X pins σ H s → EnvR C.X.K H M τ σ → SR C H M → t τ M Q (xw C τ) →
    wpAny (model C.X.prog C.X.w) C.X.A (isTrue e C.X.env whole) (TPD C pins σ H M Q) C.X.xe s
structure DPA (C : DC) (es : List Expr) (t : DA) : Prop where
  mono : MonoA t
  go : ∀ (pos : Pos) (pins : List (Addr × Obj)) (s : Shared) (σ : L2.St) (H : Hp) (τ : Sd) (M : Mp) (Q : List D → Mp → Prop), Inv C.X pins σ H s → EnvR C.X.K H M τ σ → SR C H M → t τ M Q (xw C τ) →
    wpAny (model C.X.prog C.X.w) C.X.A (spliced (backTo pos (starEach es C.X.env))) (APD C pins σ H M Q) C.X.xe s
def SPD (C : DC) (pins : List (Addr × Obj)) (H : Hp) (M : Mp) (D : DEnds) (f : Flow) (s' : Shared) : Prop :=
  match f with
  | .next => ∃ σ' H' τ' M', Inv C.X pins σ' H' s' ∧ EnvR C.X.K H' M' τ' σ' ∧ Go C H M H' M' ∧ D.nx τ' M'
  | .brk => ∃ σ' H' τ' M', Inv C.X pins σ' H' s' ∧ EnvR C.X.K H' M' τ' σ' ∧ Go C H M H' M' ∧ D.bk τ' M'
  | .cont => ∃ σ' H' τ' M', Inv C.X pins σ' H' s' ∧ EnvR C.X.K H' M' τ' σ' ∧ Go C H M H' M' ∧ D.ct τ' M'
  | .ret u => ∃ v σ' H' d M', Inv C.X pins σ' H' s' ∧ RelV v u ∧ Go C H M H' M' ∧ Den C.X.K H' M' d v ∧ D.rt d M'
structure DPS (C : DC) (st : Stmt) (t : DS) : Prop where
  mono : MonoS t
  go : ∀ (pins : List (Addr × Obj)) (s : Shared) (σ : L2.St) (H : Hp) (τ : Sd) (M : Mp) (D : DEnds), Inv C.X pins σ H s → EnvR C.X.K H M τ σ → SR C H M → t { D with ex := C.W } τ M →
    wpAny (model C.X.prog C.X.w) C.X.A (exec st C.X.env) (SPD C pins H M D) C.X.xe s
structure DPSs (C : DC) (st : List Stmt) (t : DS) : Prop where
  mono : MonoS t
  go : ∀ (pins : List (Addr × Obj)) (s : Shared) (σ : L2.St) (H : Hp) (τ : Sd) (M : Mp) (D : DEnds), Inv C.X pins σ H s → EnvR C.X.K H M τ σ → SR C H M → t { D with ex := C.W } τ M →
    wpAny (model C.X.prog C.X.w) C.X.A (execs st C.X.env) (SPD C pins H M D) C.X.xe s

/-! ### to and from the hand layer -/
def liftE (C : DC) (t : DE) : TE := fun σ H Q => ∃ τ M, EnvR C.X.K H M τ σ ∧ SR C H M ∧ t τ M (fun d M' => ∀ v H', Go C H M H' M' → Den C.X.K H' M' d v → Q v H') (xw C τ)
def liftT (C : DC) (t : DT) : TT := fun σ H Q => ∃ τ M, EnvR C.X.K H M τ σ ∧ SR C H M ∧ t τ M (fun b M' => ∀ H', Go C H M H' M' → Q b H') (xw C τ)
section
variable {C : DC} {e : Expr} {es : List Expr} {st : Stmt} {sts : List Stmt}
theorem DPE.pe {t : DE} (h : DPE C e t) : PE C.X e (liftE C t) := ⟨fun pins s σ H Q I ⟨τ, M, er, sr, q⟩ =>
  thn (h.go pins s σ H τ M _ I er sr q) fun u s' ⟨v, H', d, M', I', r, g, dn, q'⟩ => ⟨v, H', I', r, q' v H' g dn⟩⟩
theorem DPE.of {t : DE} {t' : TE} (m : MonoE t) (h : PE C.X e t') (hi : ∀ σ H Q, liftE C t σ H Q → t' σ H Q) : DPE C e t := ⟨m, fun pins s σ H τ M Q I er sr q =>
  thn (h.run pins s σ H (fun v H' => ∃ d M', Go C H M H' M' ∧ Den C.X.K H' M' d v ∧ Q d M') I (hi _ _ _ ⟨τ, M, er, sr, m _ _ _ _ _ _ (fun d M' hq v H' g dn => ⟨d, M', g, dn, hq⟩) (fun _ _ _ z => z) q⟩))
    fun u s' ⟨v, H', I', r, d, M', g, dn, q'⟩ => ⟨v, H', d, M', I', r, g, dn, q'⟩⟩
theorem DPT.pt {t : DT} (h : DPT C e t) : PT C.X e (liftT C t) := ⟨fun pins s σ H Q I ⟨τ, M, er, sr, q⟩ =>
  thn (h.go _ pins s σ H τ M _ (.inl rfl) I er sr q) fun b s' ⟨H', M', I', g, q'⟩ => ⟨H', I', q' H' g⟩⟩
def liftS (C : DC) (t : DS) : TS := fun D σ H => ∃ τ M, EnvR C.X.K H M τ σ ∧ SR C H M ∧
  t { nx := fun τ' M' => ∀ σ' H', EnvR C.X.K H' M' τ' σ' → Go C H M H' M' → D.nx σ' H', rt := fun d M' => ∀ v H', Go C H M H' M' → Den C.X.K H' M' d v → D.rt v H',
      bk := fun τ' M' => ∀ σ' H', EnvR C.X.K H' M' τ' σ' → Go C H M H' M' → D.bk σ' H', ct := fun τ' M' => ∀ σ' H', EnvR C.X.K H' M' τ' σ' → Go C H M H' M' → D.ct σ' H', ex := C.W } τ M
theorem spd_sp {pins : List (Addr × Obj)} {H : Hp} {M : Mp} {D : Ends} {D' : DEnds} {f : Flow} {s' : Shared}
    (hn : ∀ τ' M', D'.nx τ' M' → ∀ σ' H', EnvR C.X.K H' M' τ' σ' → Go C H M H' M' → D.nx σ' H') (hr : ∀ d M', D'.rt d M' → ∀ v H', Go C H M H' M' → Den C.X.K H' M' d v → D.rt v H')
    (hb : ∀ τ' M', D'.bk τ' M' → ∀ σ' H', EnvR C.X.K H' M' τ' σ' → Go C H M H' M' → D.bk σ' H') (hc : ∀ τ' M', D'.ct τ' M' → ∀ σ' H', EnvR C.X.K H' M' τ' σ' → Go C H M H' M' → D.ct σ' H')
    (h : SPD C pins H M D' f s') : SP C.X pins D f s' := by
  cases f with
  | next => obtain ⟨σ', H', τ', M', I, er, g, q⟩ := h; exact ⟨σ', H', I, hn _ _ q _ _ er g⟩
  | brk => obtain ⟨σ', H', τ', M', I, er, g, q⟩ := h; exact ⟨σ', H', I, hb _ _ q _ _ er g⟩
  | cont => obtain ⟨σ', H', τ', M', I, er, g, q⟩ := h; exact ⟨σ', H', I, hc _ _ q _ _ er g⟩
  | ret u => obtain ⟨v, σ', H', d, M', I, r, g, dn, q⟩ := h; exact ⟨v, σ', H', I, r, hr _ _ q _ _ g dn⟩
theorem DPSs.pss {t : DS} (h : DPSs C sts t) : PSs C.X sts (liftS C t) := ⟨fun pins s σ H D I ⟨τ, M, er, sr, q⟩ =>
  thn (h.go pins s σ H τ M { nx := fun τ' M' => ∀ σ' H', EnvR C.X.K H' M' τ' σ' → Go C H M H' M' → D.nx σ' H', rt := fun d M' => ∀ v H', Go C H M H' M' → Den C.X.K H' M' d v → D.rt v H', bk := fun τ' M' => ∀ σ' H', EnvR C.X.K H' M' τ' σ' → Go C H M H' M' → D.bk σ' H', ct := fun τ' M' => ∀ σ' H', EnvR C.X.K H' M' τ' σ' → Go C H M H' M' → D.ct σ' H', ex := C.W } I er sr q) fun f s' q' => spd_sp (fun _ _ z => z) (fun _ _ z => z) (fun _ _ z => z) (fun _ _ z => z) q'⟩
theorem DPS.ps {t : DS} (h : DPS C st t) : PS C.X st (liftS C t) := ⟨fun pins s σ H D I ⟨τ, M, er, sr, q⟩ =>
  thn (h.go pins s σ H τ M { nx := fun τ' M' => ∀ σ' H', EnvR C.X.K H' M' τ' σ' → Go C H M H' M' → D.nx σ' H', rt := fun d M' => ∀ v H', Go C H M H' M' → Den C.X.K H' M' d v → D.rt v H', bk := fun τ' M' => ∀ σ' H', EnvR C.X.K H' M' τ' σ' → Go C H M H' M' → D.bk σ' H', ct := fun τ' M' => ∀ σ' H', EnvR C.X.K H' M' τ' σ' → Go C H M H' M' → D.ct σ' H', ex := C.W } I er sr q) fun f s' q' => spd_sp (fun _ _ z => z) (fun _ _ z => z) (fun _ _ z => z) (fun _ _ z => z) q'⟩
/-- the ends, told over the hand layer -/
def endsOf (C : DC) (H : Hp) (M : Mp) (D : DEnds) : Ends where
  nx := fun σ' H' => ∃ τ' M', EnvR C.X.K H' M' τ' σ' ∧ Go C H M H' M' ∧ D.nx τ' M'
  rt := fun v H' => ∃ d M', Go C H M H' M' ∧ Den C.X.K H' M' d v ∧ D.rt d M'
  bk := fun σ' H' => ∃ τ' M', EnvR C.X.K H' M' τ' σ' ∧ Go C H M H' M' ∧ D.bk τ' M'
  ct := fun σ' H' => ∃ τ' M', EnvR C.X.K H' M' τ' σ' ∧ Go C H M H' M' ∧ D.ct τ' M'
theorem sp_spd {pins : List (Addr × Obj)} {H : Hp} {M : Mp} {D : DEnds} {f : Flow} {s' : Shared} (h : SP C.X pins (endsOf C H M D) f s') : SPD C pins H M D f s' := by
  cases f with
  | next => obtain ⟨σ', H', I, τ', M', er, g, q⟩ := h; exact ⟨σ', H', τ', M', I, er, g, q⟩
  | brk => obtain ⟨σ', H', I, τ', M', er, g, q⟩ := h; exact ⟨σ', H', τ', M', I, er, g, q⟩
  | cont => obtain ⟨σ', H', I, τ', M', er, g, q⟩ := h; exact ⟨σ', H', τ', M', I, er, g, q⟩
  | ret u => obtain ⟨v, σ', H', I, r, d, M', g, dn, q⟩ := h; exact ⟨v, σ', H', d, M', I, r, g, dn, q⟩
theorem DPS.of {t : DS} {t' : TS} (m : MonoS t) (h : PS C.X st t') (hi : ∀ (H : Hp) (M : Mp) (τ : Sd) (σ : L2.St) (D : DEnds), EnvR C.X.K H M τ σ → SR C H M → t { D with ex := C.W } τ M → t' (endsOf C H M D) σ H) : DPS C st t :=
  ⟨m, fun pins s σ H τ M D I er sr q => thn (h.run pins s σ H _ I (hi H M τ σ D er sr q)) fun f s' q' => sp_spd q'⟩
/-- the room for a call -/
theorem DC.room (C : DC) {pins : List (Addr × Obj)} {σ : L2.St} {H : Hp} {s : Shared} (I : Inv C.X pins σ H s) (hc : C.X.calm = true) : Room C.lv C.X.A := ⟨I.ok.hd hc, C.dp, C.un⟩
theorem EPD.mk1 {pins : List (Addr × Obj)} {σ : L2.St} {H H' : Hp} {M M' : Mp} {Q : DK} {u : Value} {s' : Shared} {v : V} {d : D} (I : Inv C.X pins σ H' s') (r : RelV v u) (g : Go C H M H' M') (dn : Den C.X.K H' M' d v) (q : Q d M') : EPD C pins σ H M Q u s' :=
  ⟨v, H', d, M', I, r, g, dn, q⟩
end
end DL

/-! Expressions over data. -/
namespace DL
open PySem PySem.Spec PyProof.Rows L2

def ok1 {α : Type} (o : Option α) (k : α → Prop) : Prop := match o with
  | some a => k a
  | none => False
@[simp] theorem ok1_some {α : Type} {a : α} {k : α → Prop} : ok1 (some a) k = k a := of_eq_true (eq_self _)
@[simp] theorem ok1_none {α : Type} {k : α → Prop} : ok1 (none : Option α) k = False := of_eq_true (eq_self _)
theorem ok1_mono {α : Type} {o : Option α} {k k' : α → Prop} (h : ∀ a, k a → k' a) (q : ok1 o k) : ok1 o k' := by
  cases o with
  | none => exact q
  | some a => exact h a q
theorem ok1_ex {α : Type} {o : Option α} {k : α → Prop} (q : ok1 o k) : ∃ a, o = some a ∧ k a := by
  cases o with
  | none => exact q.elim
  | some a => exact ⟨a, rfl, q⟩
theorem ok1_of {α : Type} {o : Option α} {k : α → Prop} {a : α} (e : o = some a) (q : k a) : ok1 o k := by rw [e]; exact q

def getV : Sd → Nat → Option D
  | [], _ => none
  | o :: _, 0 => o
  | _ :: r, i + 1 => getV r i
def setV : Sd → Nat → Option D → Sd
  | [], _, _ => []
  | _ :: r, 0, d => d :: r
  | o :: r, i + 1, d => o :: setV r i d
theorem getV_get : ∀ {τ : Sd} {i : Nat} {d : D}, getV τ i = some d → τ[i]? = some (some d)
  | [], _, _, h => by simp [getV] at h
  | o :: r, 0, d, h => by simp only [getV] at h; simp [h]
  | o :: r, i + 1, d, h => by simpa using getV_get (τ := r) (i := i) (by simpa only [getV] using h)
theorem setV_set : ∀ {τ : Sd} {i : Nat} {d : Option D}, setV τ i d = τ.set i d
  | [], _, _ => rfl
  | o :: r, 0, d => rfl
  | o :: r, i + 1, d => by simp only [setV, List.set_cons_succ]; rw [setV_set]

section
variable {C : DC} {e a b c : Expr} {es : List Expr} {pos : Pos} {ta tb tc : DE}

def dVar (i : Nat) : DE := fun τ M Q _ => ok1 (getV τ i) fun d => Q d M
def dC (d : D) : DE := fun _ M Q _ => Q d M
theorem mono_var {i : Nat} : MonoE (dVar i) := fun τ M Q Q' E E' h _ q => ok1_mono (fun d => h d M) q
theorem mono_c {d : D} : MonoE (dC d) := fun τ M Q Q' E E' h _ q => h d M q
theorem de_var {i : Nat} {x : Str} (hN : C.X.N[i]? = some x) (hv : Vis C.X.env.scope x) (hd : (x == ("__debug__" : Str)) = false := by decide) (hcd : (x == ("__classdict__" : Str)) = false := by decide) : DPE C (.Name x pos) (dVar i) :=
  .of mono_var (pe_var hN hv hd hcd) fun σ H Q ⟨τ, M, er, sr, q⟩ => by
    obtain ⟨d, e, q⟩ := ok1_ex q
    obtain ⟨v, ev, dn⟩ := er.2 i d (getV_get e)
    exact ⟨v, ev, q v H (Go.refl sr) dn⟩
theorem de_c {d : D} {v : V} (h : PE C.X e (tC v)) (hd : ∀ H M, Den C.X.K H M d v) : DPE C e (dC d) := .of mono_c h fun σ H Q ⟨τ, M, er, sr, q⟩ => q v H (Go.refl sr) (hd H M)
theorem de_int {i j} : DPE C (.Constant (.int i) j pos) (dC (.int i)) := de_c pe_int fun _ _ => by simp only [Den]
theorem de_bl {i j} : DPE C (.Constant (.bool i) j pos) (dC (.bl i)) := de_c pe_bl fun _ _ => by simp only [Den]
theorem de_non {j} : DPE C (.Constant .none j pos) (dC .non) := de_c pe_non fun _ _ => by simp only [Den]
theorem de_str {i j} : DPE C (.Constant (.str i) j pos) (dC (.str i)) := de_c pe_str fun _ _ => by simp only [Den]
/-- a constant of the module, a def, a class -/
theorem de_glob {x : Str} {d : D} {v : V} {u : Value} (hg : Gl C.X x) (hm : C.X.mg x = some u) (r : RelV v u) (hd : ∀ H M, Den C.X.K H M d v) (hdb : (x == ("__debug__" : Str)) = false := by decide) : DPE C (.Name x pos) (dC d) := de_c (pe_glob hg hm r hdb) hd

/-! ### argument lists -/
def dNil : DA := fun _ M Q _ => Q [] M
def dCons (t : DE) (r : DA) : DA := fun τ M Q E => t τ M (fun d M1 => r τ M1 (fun ds M2 => Q (d :: ds) M2) E) E
theorem mono_nil : MonoA dNil := fun τ M Q Q' E E' h _ q => h [] M q
theorem mono_cons {t : DE} {r : DA} (m : MonoE t) (n : MonoA r) : MonoA (dCons t r) := fun τ M Q Q' E E' h he q =>
  m τ M _ _ _ _ (fun d M1 => n τ M1 _ _ _ _ (fun ds M2 => h (d :: ds) M2) he) he q
theorem da_nil : DPA C [] dNil := ⟨mono_nil, fun pos pins s σ H τ M Q I er sr q => Calls.spliced_nil ⟨[], H, [], M, I, .nil, Go.refl sr, DenL.nil, q⟩⟩
theorem da_cons {r : DA} (ha : DPE C e ta) (hr : DPA C es r) (hs : starEach (e :: es) C.X.env = (false, eval e C.X.env) :: starEach es C.X.env := by rfl) : DPA C (e :: es) (dCons ta r) := by
  refine ⟨mono_cons ha.mono hr.mono, fun pos pins s σ H τ M Q I er sr q => ?_⟩
  rw [hs]
  show wpAny _ _ (spliced ((false, eval e C.X.env) :: backTo pos (starEach es C.X.env))) _ _ s
  refine Calls.spliced_cons (thn (ha.go pins s σ H τ M _ I er sr q) fun u s1 ⟨x, H1, d, M1, I1, r1, g1, dn1, q1⟩ => ?_)
  refine thn (hr.go pos pins s1 σ H1 τ M1 _ I1 (er.keep g1.keep) (sr.go g1) q1) fun us s2 ⟨xs, H2, ds, M2, I2, r2, g2, dn2, q2⟩ => ?_
  exact ⟨x :: xs, H2, d :: ds, M2, I2, .cons r1 r2, g1.trans g2, DenL.cons (Den.keep g2.keep d dn1) dn2, q2⟩

/-! ### displays -/
def dTup (t : DA) : DE := fun τ M Q E => t τ M (fun ds M1 => ds.length ≤ sizeLine ∧ Q (.tup ds) M1) E
/-- a list that nobody changes -/
def dLst (t : DA) : DE := fun τ M Q E => t τ M (fun ds M1 => ds.length ≤ sizeLine ∧ Q (.lst ds) M1) E
/-- a list that is changed later -/
def dLstM (t : DA) : DE := fun τ M Q E => t τ M (fun ds M1 => ds.length ≤ sizeLine ∧ ∀ p, M1 p = none → Q (.ref p) (put M1 p (.lst ds))) E
theorem mono_tup {t : DA} (m : MonoA t) : MonoE (dTup t) := fun τ M Q Q' E E' h he q => m τ M _ _ _ _ (fun ds M1 z => ⟨z.1, h _ _ z.2⟩) he q
theorem mono_lst {t : DA} (m : MonoA t) : MonoE (dLst t) := fun τ M Q Q' E E' h he q => m τ M _ _ _ _ (fun ds M1 z => ⟨z.1, h _ _ z.2⟩) he q
theorem mono_lstM {t : DA} (m : MonoA t) : MonoE (dLstM t) := fun τ M Q Q' E E' h he q => m τ M _ _ _ _ (fun ds M1 z => ⟨z.1, fun p hp => h _ _ (z.2 p hp)⟩) he q
/-- a new fixed tuple at an address -/
theorem new_tup {H : Hp} {M : Mp} {p : Addr} {xs : List V} {ds : List D} (sr : SR C H M) (hp : H p = none) (l : DenL C.X.K H M ds xs) : Go C H M (upd H p (.tup xs)) M ∧ Den C.X.K (upd H p (.tup xs)) M (.tup ds) (.ref p) := by
  have g : Go C H M (upd H p (.tup xs)) M := Go.new sr hp fun _ z => nomatch z
  refine ⟨g, ?_⟩
  simp only [Den]
  exact ⟨p, xs, rfl, .inl ⟨sr.abs.free hp, .inl upd_same⟩, l.keep g.keep⟩
theorem new_lst {H : Hp} {M : Mp} {p : Addr} {xs : List V} {ds : List D} (sr : SR C H M) (hp : H p = none) (l : DenL C.X.K H M ds xs) : Go C H M (upd H p (.lst xs)) M ∧ Den C.X.K (upd H p (.lst xs)) M (.lst ds) (.ref p) := by
  have g : Go C H M (upd H p (.lst xs)) M := Go.new sr hp fun _ z => nomatch z
  refine ⟨g, ?_⟩
  simp only [Den]
  exact ⟨p, xs, rfl, ⟨sr.abs.free hp, upd_same⟩, l.keep g.keep⟩
theorem new_lstM {H : Hp} {M : Mp} {p : Addr} {xs : List V} {ds : List D} (sr : SR C H M) (hp : H p = none) (l : DenL C.X.K H M ds xs) : Go C H M (upd H p (.lst xs)) (put M p (.lst ds)) ∧ Den C.X.K (upd H p (.lst xs)) (put M p (.lst ds)) (.ref p) (.ref p) := by
  refine ⟨⟨Keep.mut sr.abs hp, sr.abs.lst hp l, TabsUpd sr.tab (.inl hp) fun _ z => nomatch z⟩, ?_⟩
  simp only [Den]
theorem de_tup {t : DA} {k} (h : DPA C es t) : DPE C (.Tuple es k pos) (dTup t) := by
  refine ⟨mono_tup h.mono, fun pins s σ H τ M Q I er sr q => ?_⟩
  refine wpAny_Tuple_spliced (thn (h.go pos pins s σ H τ M _ I er sr q) fun us s1 ⟨xs, H1, ds, M1, I1, r, g, l, z, q⟩ => ⟨by rw [← r.length, l.length]; exact z, ?_⟩)
  have hf : H1 s1.heap.objs.size = none := I1.hok.fresh (Nat.le_refl _)
  obtain ⟨g2, dn⟩ := new_tup (sr.go g) hf l
  refine ⟨.ref s1.heap.objs.size, _, _, M1, I1.laid (t' := s1.toks) (fun b u e => Heap.get?_push_of_some _ e) (Nat.le_refl _) ?_, rfl, g.trans g2, dn, q⟩
  exact ⟨by rw [l.length]; exact z, us, r, ⟨_, Heap.get?_push_size _ rfl, rfl, _, rfl⟩⟩
theorem de_lst {t : DA} (h : DPA C es t) : DPE C (.List es pos) (dLst t) := by
  refine ⟨mono_lst h.mono, fun pins s σ H τ M Q I er sr q => ?_⟩
  refine wpAny_List_spliced (thn (h.go pos pins s σ H τ M _ I er sr q) fun us s1 ⟨xs, H1, ds, M1, I1, r, g, l, z, q⟩ => ⟨by rw [← r.length, l.length]; exact z, ?_⟩)
  have hf : H1 s1.heap.objs.size = none := I1.hok.fresh (Nat.le_refl _)
  obtain ⟨g2, dn⟩ := new_lst (sr.go g) hf l
  refine ⟨.ref s1.heap.objs.size, _, _, M1, I1.laid (t' := s1.toks) (fun b u e => Heap.get?_push_of_some _ e) (Nat.le_refl _) ?_, rfl, g.trans g2, dn, q⟩
  exact ⟨by rw [l.length]; exact z, us, 0, r, Heap.get?_push_size _ rfl⟩
theorem de_lstM {t : DA} (h : DPA C es t) : DPE C (.List es pos) (dLstM t) := by
  refine ⟨mono_lstM h.mono, fun pins s σ H τ M Q I er sr q => ?_⟩
  refine wpAny_List_spliced (thn (h.go pos pins s σ H τ M _ I er sr q) fun us s1 ⟨xs, H1, ds, M1, I1, r, g, l, z, q⟩ => ⟨by rw [← r.length, l.length]; exact z, ?_⟩)
  have hf : H1 s1.heap.objs.size = none := I1.hok.fresh (Nat.le_refl _)
  obtain ⟨g2, dn⟩ := new_lstM (sr.go g) hf l
  refine ⟨.ref s1.heap.objs.size, _, _, _, I1.laid (t' := s1.toks) (fun b u e => Heap.get?_push_of_some _ e) (Nat.le_refl _) ?_, rfl, g.trans g2, dn, q _ ((sr.go g).abs.free hf)⟩
  exact ⟨by rw [l.length]; exact z, us, 0, r, Heap.get?_push_size _ rfl⟩

/-! ### operations by values -/
/-- the items of a tuple, of a list -/
def items (M : Mp) : D → Option (List D)
  | .tup xs => some xs
  | .lst xs => some xs
  | .scr xs => some xs
  | .ref a => match M a with
    | some (.lst xs) => some xs
    | _ => none
  | _ => none
abbrev O2 := D → D → Mp → Option D
/-- a two-place operation that changes nothing -/
def DOp (C : DC) (F : Value → Value → Sem Value) (f : O2) : Prop :=
  ∀ (pins : List (Addr × Obj)) (s : Shared) (σ : L2.St) (H : Hp) (M : Mp) (x y : V) (u v : Value) (d e z : D), Inv C.X pins σ H s → SR C H M → RelV x u → RelV y v → Den C.X.K H M d x → Den C.X.K H M e y → f d e M = some z →
    wpAny (model C.X.prog C.X.w) C.X.A (F u v) (EPD C pins σ H M fun z' M' => z' = z ∧ M' = M) C.X.xe s
def dOp (f : O2) (ta tb : DE) : DE := fun τ M Q E => ta τ M (fun x M1 => tb τ M1 (fun y M2 => ok1 (f x y M2) fun z => Q z M2) E) E
theorem mono_op {f : O2} (m : MonoE ta) (n : MonoE tb) : MonoE (dOp f ta tb) := fun τ M Q Q' E E' h he q =>
  m τ M _ _ _ _ (fun x M1 => n τ M1 _ _ _ _ (fun y M2 => ok1_mono fun z => h z M2) he) he q
theorem bin2 {F : Value → Value → Sem Value} {f : O2} (ho : DOp C F f) (ha : DPE C a ta) (hb : DPE C b tb) {pins : List (Addr × Obj)} {s : Shared} {σ : L2.St} {H : Hp} {τ : Sd} {M : Mp} {Q : DK} (I : Inv C.X pins σ H s) (er : EnvR C.X.K H M τ σ) (sr : SR C H M)
    (q : dOp f ta tb τ M Q (xw C τ)) : wpAny (model C.X.prog C.X.w) C.X.A (eval a C.X.env) (fun v s₁ => wpAny (model C.X.prog C.X.w) C.X.A (eval b C.X.env) (fun u s₂ => wpAny (model C.X.prog C.X.w) C.X.A (F v u) (EPD C pins σ H M Q) C.X.xe s₂) C.X.xe s₁) C.X.xe s := by
  refine thn (ha.go pins s σ H τ M _ I er sr q) fun v s1 ⟨x, H1, d, M1, I1, r1, g1, dn1, q1⟩ => ?_
  refine thn (hb.go pins s1 σ H1 τ M1 _ I1 (er.keep g1.keep) (sr.go g1) q1) fun u s2 ⟨y, H2, e, M2, I2, r2, g2, dn2, q2⟩ => ?_
  obtain ⟨z, ez, q2⟩ := ok1_ex q2
  refine thn (ho pins s2 σ H2 M2 x y v u d e z I2 ((sr.go g1).go g2) r1 r2 (Den.keep g2.keep d dn1) dn2 ez) fun w s3 ⟨wv, H3, z', M3, I3, r3, g3, dn3, e3, e4⟩ => ?_
  subst e3; subst e4
  exact ⟨wv, H3, z', M3, I3, r3, (g1.trans g2).trans g3, dn3, q2⟩
theorem de_op {op : Operator} {f : O2} (ho : DOp C (binaryOp op) f) (ha : DPE C a ta) (hb : DPE C b tb) : DPE C (.BinOp a op b pos) (dOp f ta tb) :=
  ⟨mono_op ha.mono hb.mono, fun pins s σ H τ M Q I er sr q => wpAny_BinOp (bin2 ho ha hb I er sr q)⟩
theorem de_cmp {op : CmpOp} {f : O2} (ho : DOp C (compareOp op) f) (ha : DPE C a ta) (hb : DPE C b tb) (hm : behindInMarks op b = false := by rfl) : DPE C (.Compare a [op] [b] pos) (dOp f ta tb) :=
  ⟨mono_op ha.mono hb.mono, fun pins s σ H τ M Q I er sr q => wpAny_Compare1 (bin2 ho ha hb I er sr q) hm⟩
/-- an operation by a hand rule -/
theorem DOp.of {F : Value → Value → Sem Value} {r : R2} {f : O2} (h : OpR C.X F r)
    (hi : ∀ (pins : List (Addr × Obj)) (s : Shared) (σ : L2.St) (H : Hp) (M : Mp) (x y : V) (d e z : D) (Q : VK), Inv C.X pins σ H s → SR C H M → Den C.X.K H M d x → Den C.X.K H M e y → f d e M = some z → (∀ v H', Go C H M H' M → Den C.X.K H' M z v → Q v H') → r x y H Q) : DOp C F f :=
  fun pins s σ H M x y u v d e z I sr r1 r2 d1 d2 ez =>
    thn (h pins s σ H x y u v (fun w H' => Go C H M H' M ∧ Den C.X.K H' M z w) I r1 r2 (hi pins s σ H M x y d e z _ I sr d1 d2 ez fun v H' g dn => ⟨g, dn⟩)) fun w s' ⟨wv, H', I', rw, g, dn⟩ => ⟨wv, H', z, M, I', rw, g, dn, rfl, rfl⟩
/-- ints in, a plain value out -/
def fI (p : Int → Int → Bool) (g : Int → Int → D) : O2 := fun x y _ => match x, y with
  | .int i, .int j => if p i j = true then some (g i j) else none
  | _, _ => none
def pD : D → Option V
  | .non => some .non
  | .bl b => some (.bl b)
  | .int i => some (.int i)
  | .str s => some (.str s)
  | .ty n => some (.ty n)
  | .ref a => some (.ref a)
  | _ => none
theorem pD_den {K : PySem.W.Frag} {H : Hp} {M : Mp} {d : D} {v : V} (h : pD d = some v) : Den K H M d v := by
  cases d <;> simp only [pD, Option.some.injEq, reduceCtorEq] at h <;> (subst h; simp only [Den])
theorem den_pD {K : PySem.W.Frag} {H : Hp} {M : Mp} {d : D} {v w : V} (h : pD d = some w) (q : Den K H M d v) : v = w := by
  cases d <;> simp only [pD, Option.some.injEq, reduceCtorEq] at h <;> (subst h; simpa only [Den] using q)
theorem opI_of {F : Value → Value → Sem Value} {Cn : Int → Int → Prop} {p : Int → Int → Bool} {g : Int → Int → V} {gd : Int → Int → D} (h : OpR C.X F (rI Cn g)) (hp : ∀ i j, p i j = true → Cn i j) (hg : ∀ i j, pD (gd i j) = some (g i j)) : DOp C F (fI p gd) :=
  .of h fun pins s σ H M x y d e z Q I sr d1 d2 ez k => by
    unfold fI at ez
    split at ez <;> try cases ez
    rename_i i j
    split at ez <;> try cases ez
    rename_i hpp
    simp only [Den] at d1 d2
    exact ⟨i, j, d1, d2, hp i j hpp, k _ _ (Go.refl sr) (pD_den (hg i j))⟩
theorem opI0_of {F : Value → Value → Sem Value} {g : Int → Int → V} {gd : Int → Int → D} (h : OpR C.X F (rI0 g)) (hg : ∀ i j, pD (gd i j) = some (g i j)) : DOp C F (fI (fun _ _ => true) gd) :=
  .of h fun pins s σ H M x y d e z Q I sr d1 d2 ez k => by
    unfold fI at ez
    split at ez <;> try cases ez
    rename_i i j
    simp only [Den] at d1 d2
    exact ⟨i, j, d1, d2, k _ _ (Go.refl sr) (pD_den (hg i j))⟩
def small (i : Int) : Bool := decide (-18446744073709551616 < i) && decide (i < 18446744073709551616)
def fSub : O2 := fI (fun _ _ => true) fun i j => .int (i - j)
def fMulI : O2 := fI (fun i j => small i || small j) fun i j => .int (i * j)
def fDiv : O2 := fI (fun i j => decide (0 < j) && decide (j < 1073741824)) fun i j => .int (i / j)
def fMod : O2 := fI (fun i j => decide (0 < j)) fun i j => .int (i % j)
def fPow : O2 := fI (fun i j => decide (0 ≤ j) && decide (j ≤ 1000000) && decide (i.natAbs < 18446744073709551616)) fun i j => .int (i ^ j.toNat)
theorem dop_sub : DOp C (binaryOp .Sub) fSub := opI0_of op_sub fun _ _ => rfl
theorem dop_mul : DOp C (binaryOp .Mult) fMulI := opI_of op_mul (fun i j h => by
  simp only [small, Bool.or_eq_true, Bool.and_eq_true, decide_eq_true_eq] at h
  unfold CMul
  rcases h with h | h
  · exact .inl ⟨by omega, by omega⟩
  · exact .inr ⟨by omega, by omega⟩) fun _ _ => rfl
theorem dop_div : DOp C (binaryOp .FloorDiv) fDiv := opI_of op_fdiv (fun i j h => by
  simp only [Bool.and_eq_true, decide_eq_true_eq] at h
  exact h) fun _ _ => rfl
theorem dop_mod : DOp C (binaryOp .Mod) fMod := opI_of op_mod (fun i j h => by simpa using h) fun _ _ => rfl
theorem dop_pow : DOp C (binaryOp .Pow) fPow := opI_of op_pow (fun i j h => by
  simp only [Bool.and_eq_true, decide_eq_true_eq] at h
  exact ⟨h.1.1, h.1.2, by have := h.2; omega⟩) fun _ _ => rfl
def fLt : O2 := fI (fun _ _ => true) fun i j => .bl (decide (i < j))
def fLe : O2 := fI (fun _ _ => true) fun i j => .bl (decide (i ≤ j))
def fGt : O2 := fI (fun _ _ => true) fun i j => .bl (decide (j < i))
def fGe : O2 := fI (fun _ _ => true) fun i j => .bl (decide (j ≤ i))
theorem dop_lt : DOp C (compareOp .Lt) fLt := opI0_of op_lt fun _ _ => rfl
theorem dop_le : DOp C (compareOp .LtE) fLe := opI0_of op_le fun _ _ => rfl
theorem dop_gt : DOp C (compareOp .Gt) fGt := opI0_of op_gt fun _ _ => rfl
theorem dop_ge : DOp C (compareOp .GtE) fGe := opI0_of op_ge fun _ _ => rfl
/-- is None, is not None -/
def isNon : D → Bool
  | .non => true
  | _ => false
theorem den_non {K : PySem.W.Frag} {H : Hp} {M : Mp} {d : D} {v : V} (q : Den K H M d v) : decide (v = .non) = isNon d := by
  cases d <;> simp only [Den] at q
  case non => subst q; rfl
  case tup => obtain ⟨a, vs, rfl, _⟩ := q; rfl
  case lst => obtain ⟨a, vs, rfl, _⟩ := q; rfl
  case scr => obtain ⟨a, vs, rfl, _⟩ := q; rfl
  all_goals (subst q; rfl)
def fIsN : O2 := fun x y _ => match y with
  | .non => some (.bl (isNon x))
  | _ => none
def fNotN : O2 := fun x y _ => match y with
  | .non => some (.bl (!isNon x))
  | _ => none
theorem dop_isN : DOp C (compareOp .Is) fIsN := .of op_isN fun pins s σ H M x y d e z Q I sr d1 d2 ez k => by
  cases e <;> simp only [fIsN, Option.some.injEq, reduceCtorEq] at ez
  subst ez
  simp only [Den] at d2
  exact ⟨d2, k _ _ (Go.refl sr) (by simp only [Den]; rw [den_non d1])⟩
theorem dop_notN : DOp C (compareOp .IsNot) fNotN := .of op_notN fun pins s σ H M x y d e z Q I sr d1 d2 ez k => by
  cases e <;> simp only [fNotN, Option.some.injEq, reduceCtorEq] at ez
  subst ez
  simp only [Den] at d2
  exact ⟨d2, k _ _ (Go.refl sr) (by simp only [Den]; rw [den_non d1])⟩
end
end DL

/-! Tests, truth, and, or, not, chains; statements. -/
namespace DL
open PySem PySem.Spec PyProof.Rows L2
section
variable {C : DC} {e a b c : Expr} {es rest : List Expr} {pos : Pos} {ta tb tc : DE} {tA tB : DT}

/-! ### tests -/
/-- a value's truth -/
def truth (M : Mp) : D → Option Bool
  | .non => some false
  | .bl b => some b
  | .int i => some (i != 0)
  | .str s => some (s.length != 0)
  | .tup xs => some (!xs.isEmpty)
  | .lst xs => some (!xs.isEmpty)
  | _ => none
def bool1 : D → Option Bool
  | .bl b => some b
  | _ => none
def tOf (t : DE) : DT := fun τ M Q E => t τ M (fun d M1 => ok1 (bool1 d) fun b => Q b M1) E
theorem mono_tOf (m : MonoE ta) : MonoT (tOf ta) := fun τ M Q Q' E E' h he q => m τ M _ _ _ _ (fun d M1 => ok1_mono fun b => h b M1) he q
theorem bool1_den {K : PySem.W.Frag} {H : Hp} {M : Mp} {d : D} {v : V} {u : Value} {k : Bool} (e : bool1 d = some k) (q : Den K H M d v) (r : RelV v u) : u = .bool k := by
  cases d <;> simp only [bool1, Option.some.injEq, reduceCtorEq] at e
  subst e
  simp only [Den] at q
  subst q
  exact r
/-- an expression that gives a bool -/
theorem dt_val (h : DPE C e ta) (he : ∀ whole, isTrue e C.X.env whole = (do let v ← whole; standAt e.pos; holding [v] (truthy v)) := by intro _; rfl) (hb : ∀ op es pos, e ≠ .BoolOp op es pos := by intro _ _ _ z; cases z) : DPT C e (tOf ta) :=
  ⟨mono_tOf h.mono, fun whole pins s σ H τ M Q hw I er sr q => by
    rcases hw with hw | ⟨op, es, pos, hw⟩
    · subst hw
      refine isTrue_plain (thn (h.go pins s σ H τ M _ I er sr q) fun v s1 ⟨x, H1, d, M1, I1, r1, g1, dn1, q1⟩ => ?_) (he _)
      obtain ⟨k, ek, q1⟩ := ok1_ex q1
      have := bool1_den ek dn1 r1
      subst this
      exact wpAny_truthy_bool ⟨H1, M1, I1, g1, q1⟩
    · exact absurd hw (hb _ _ _)⟩
theorem dt_cmp {op : CmpOp} {f : O2} (ho : DOp C (compareOp op) f) (ha : DPE C a ta) (hb : DPE C b tb) (hm : behindInMarks op b = false := by rfl) : DPT C (.Compare a [op] [b] pos) (tOf (dOp f ta tb)) :=
  ⟨mono_tOf (mono_op ha.mono hb.mono), fun whole pins s σ H τ M Q hw I er sr q => by
    refine wpAny_isTrue_Compare1 (thn (bin2 ho ha hb I er sr q) fun v s1 h1 => thn h1 fun u s2 h2 => thn h2 fun c s3 ⟨x, H1, d, M1, I1, r1, g1, dn1, q1⟩ => ?_) hm
    obtain ⟨k, ek, q1⟩ := ok1_ex q1
    have := bool1_den ek dn1 r1
    subst this
    exact wpAny_truthy_bool ⟨H1, M1, I1, g1, q1⟩⟩
def tAnd (t u : DT) : DT := fun τ M Q E => t τ M (fun c M1 => if c = true then u τ M1 Q E else Q false M1) E
def tOr (t u : DT) : DT := fun τ M Q E => t τ M (fun c M1 => if c = true then Q true M1 else u τ M1 Q E) E
def tNot (t : DT) : DT := fun τ M Q E => t τ M (fun c M1 => Q (!c) M1) E
theorem mono_and (m : MonoT tA) (n : MonoT tB) : MonoT (tAnd tA tB) := fun τ M Q Q' E E' h he q => m τ M _ _ _ _ (fun c M1 z => by
  cases c with
  | true => exact n τ M1 _ _ _ _ h he z
  | false => exact h _ _ z) he q
theorem mono_or (m : MonoT tA) (n : MonoT tB) : MonoT (tOr tA tB) := fun τ M Q Q' E E' h he q => m τ M _ _ _ _ (fun c M1 z => by
  cases c with
  | true => exact h _ _ z
  | false => exact n τ M1 _ _ _ _ h he z) he q
theorem mono_not (m : MonoT tA) : MonoT (tNot tA) := fun τ M Q Q' E E' h he q => m τ M _ _ _ _ (fun c M1 z => h _ _ z) he q
theorem TPD.go {pins : List (Addr × Obj)} {σ : L2.St} {H H1 : Hp} {M M1 : Mp} {Q : Bool → Mp → Prop} {k : Bool} {s : Shared} (g : Go C H M H1 M1) (h : TPD C pins σ H1 M1 Q k s) : TPD C pins σ H M Q k s :=
  let ⟨H2, M2, I2, g2, q⟩ := h; ⟨H2, M2, I2, g.trans g2, q⟩
theorem dt_and1 (ha : DPT C a tA) : DPT C (.BoolOp .And [a] pos) tA := ⟨ha.mono, fun wh pins s σ H τ M Q _ I er sr q => by
  refine isTrue_and (thn (ha.go _ pins s σ H τ M Q (.inl rfl) I er sr q) fun c s1 e => ?_)
  cases c with
  | true => exact isTrue_and_nil e
  | false => exact e⟩
theorem dt_or1 (ha : DPT C a tA) : DPT C (.BoolOp .Or [a] pos) tA := ⟨ha.mono, fun wh pins s σ H τ M Q _ I er sr q => by
  refine isTrue_or (thn (ha.go _ pins s σ H τ M Q (.inl rfl) I er sr q) fun c s1 e => ?_)
  cases c with
  | false => exact isTrue_or_nil e
  | true => exact e⟩
theorem dt_and (ha : DPT C a tA) (hb : DPT C (.BoolOp .And (b :: rest) pos) tB) : DPT C (.BoolOp .And (a :: b :: rest) pos) (tAnd tA tB) := ⟨mono_and ha.mono hb.mono, fun wh pins s σ H τ M Q _ I er sr q => by
  refine isTrue_and (thn (ha.go _ pins s σ H τ M _ (.inl rfl) I er sr q) fun c s1 ⟨H1, M1, I1, g1, q1⟩ => ?_)
  cases c with
  | true => exact thn (hb.go wh pins s1 σ H1 τ M1 Q (.inr ⟨_, _, _, rfl⟩) I1 (er.keep g1.keep) (sr.go g1) q1) fun _ _ z => z.go g1
  | false => exact ⟨H1, M1, I1, g1, q1⟩⟩
theorem dt_or (ha : DPT C a tA) (hb : DPT C (.BoolOp .Or (b :: rest) pos) tB) : DPT C (.BoolOp .Or (a :: b :: rest) pos) (tOr tA tB) := ⟨mono_or ha.mono hb.mono, fun wh pins s σ H τ M Q _ I er sr q => by
  refine isTrue_or (thn (ha.go _ pins s σ H τ M _ (.inl rfl) I er sr q) fun c s1 ⟨H1, M1, I1, g1, q1⟩ => ?_)
  cases c with
  | true => exact ⟨H1, M1, I1, g1, q1⟩
  | false => exact thn (hb.go wh pins s1 σ H1 τ M1 Q (.inr ⟨_, _, _, rfl⟩) I1 (er.keep g1.keep) (sr.go g1) q1) fun _ _ z => z.go g1⟩
theorem dt_not (ha : DPT C a tA) : DPT C (.UnaryOp .Not a pos) (tNot tA) := ⟨mono_not ha.mono, fun wh pins s σ H τ M Q hw I er sr q => by
  rcases hw with hw | ⟨_, _, _, z⟩
  · subst hw
    exact isTrue_not (thn (ha.go _ pins s σ H τ M (fun c M1 => Q (!c) M1) (.inl rfl) I er sr q) fun c s1 ⟨H1, M1, I1, g1, q1⟩ => ⟨H1, M1, I1, g1, q1⟩)
  · cases z⟩
/-! ### and, or, not as values (bools) -/
def dAnd (ta tb : DE) : DE := fun τ M Q E => ta τ M (fun x M1 => ok1 (bool1 x) fun c => if c = true then tb τ M1 Q E else Q (.bl false) M1) E
def dOr (ta tb : DE) : DE := fun τ M Q E => ta τ M (fun x M1 => ok1 (bool1 x) fun c => if c = true then Q (.bl true) M1 else tb τ M1 Q E) E
def dNot (ta : DE) : DE := fun τ M Q E => ta τ M (fun x M1 => ok1 (bool1 x) fun c => Q (.bl (!c)) M1) E
theorem mono_dand (m : MonoE ta) (n : MonoE tb) : MonoE (dAnd ta tb) := fun τ M Q Q' E E' h he q => m τ M _ _ _ _ (fun x M1 => ok1_mono fun c z => by
  cases c with
  | true => exact n τ M1 _ _ _ _ h he z
  | false => exact h _ _ z) he q
theorem mono_dor (m : MonoE ta) (n : MonoE tb) : MonoE (dOr ta tb) := fun τ M Q Q' E E' h he q => m τ M _ _ _ _ (fun x M1 => ok1_mono fun c z => by
  cases c with
  | true => exact h _ _ z
  | false => exact n τ M1 _ _ _ _ h he z) he q
theorem mono_dnot (m : MonoE ta) : MonoE (dNot ta) := fun τ M Q Q' E E' h he q => m τ M _ _ _ _ (fun x M1 => ok1_mono fun c z => h _ _ z) he q
theorem EPD.go {pins : List (Addr × Obj)} {σ : L2.St} {H H1 : Hp} {M M1 : Mp} {Q : DK} {u : Value} {s : Shared} (g : Go C H M H1 M1) (h : EPD C pins σ H1 M1 Q u s) : EPD C pins σ H M Q u s :=
  let ⟨v, H2, d, M2, I2, r, g2, dn, q⟩ := h; ⟨v, H2, d, M2, I2, r, g.trans g2, dn, q⟩
theorem de_one {op} (h : DPE C a ta) : DPE C (.BoolOp op [a] pos) ta := ⟨h.mono, fun pins s σ H τ M Q I er sr q => BoolOp_one (h.go pins s σ H τ M Q I er sr q)⟩
theorem de_and (ha : DPE C a ta) (hb : DPE C (.BoolOp .And (b :: rest) pos) tb) : DPE C (.BoolOp .And (a :: b :: rest) pos) (dAnd ta tb) := ⟨mono_dand ha.mono hb.mono, fun pins s σ H τ M Q I er sr q => by
  refine BoolOp_and (thn (ha.go pins s σ H τ M _ I er sr q) fun v s1 ⟨x, H1, d, M1, I1, r1, g1, dn1, q1⟩ => ?_)
  obtain ⟨k, ek, q1⟩ := ok1_ex q1
  have := bool1_den ek dn1 r1
  subst this
  refine wpAny_truthy_bool ?_
  cases k with
  | true => exact thn (hb.go pins s1 σ H1 τ M1 Q I1 (er.keep g1.keep) (sr.go g1) q1) fun _ _ z => z.go g1
  | false => exact ⟨.bl false, H1, .bl false, M1, I1, rfl, g1, by simp only [Den], q1⟩⟩
theorem de_or (ha : DPE C a ta) (hb : DPE C (.BoolOp .Or (b :: rest) pos) tb) : DPE C (.BoolOp .Or (a :: b :: rest) pos) (dOr ta tb) := ⟨mono_dor ha.mono hb.mono, fun pins s σ H τ M Q I er sr q => by
  refine BoolOp_or (thn (ha.go pins s σ H τ M _ I er sr q) fun v s1 ⟨x, H1, d, M1, I1, r1, g1, dn1, q1⟩ => ?_)
  obtain ⟨k, ek, q1⟩ := ok1_ex q1
  have := bool1_den ek dn1 r1
  subst this
  refine wpAny_truthy_bool ?_
  cases k with
  | false => exact thn (hb.go pins s1 σ H1 τ M1 Q I1 (er.keep g1.keep) (sr.go g1) q1) fun _ _ z => z.go g1
  | true => exact ⟨.bl true, H1, .bl true, M1, I1, rfl, g1, by simp only [Den], q1⟩⟩
theorem de_not (ha : DPE C a ta) : DPE C (.UnaryOp .Not a pos) (dNot ta) := ⟨mono_dnot ha.mono, fun pins s σ H τ M Q I er sr q => by
  refine UnaryOp_ (thn (ha.go pins s σ H τ M _ I er sr q) fun v s1 ⟨x, H1, d, M1, I1, r1, g1, dn1, q1⟩ => ?_)
  obtain ⟨k, ek, q1⟩ := ok1_ex q1
  have := bool1_den ek dn1 r1
  subst this
  exact not_of (wpAny_truthy_bool ⟨.bl (!k), H1, .bl (!k), M1, I1, rfl, g1, by simp only [Den], q1⟩)⟩
def dNeg (ta : DE) : DE := fun τ M Q E => ta τ M (fun x M1 => match x with
  | .int i => Q (.int (-i)) M1
  | _ => False) E
theorem mono_neg (m : MonoE ta) : MonoE (dNeg ta) := fun τ M Q Q' E E' h he q => m τ M _ _ _ _ (fun x M1 z => by
  cases x <;> first | exact h _ _ z | exact z) he q
theorem de_neg (ha : DPE C a ta) : DPE C (.UnaryOp .USub a pos) (dNeg ta) := .of (mono_neg ha.mono) (pe_un un_neg ha.pe) fun σ H Q ⟨τ, M, er, sr, q⟩ => ⟨τ, M, er, sr, ha.mono _ _ _ _ _ _ (fun d M' z v H' g dn => by
  cases d <;> try exact z.elim
  rename_i i
  simp only [Den] at dn
  subst dn
  exact ⟨i, rfl, z _ _ g (by simp only [Den])⟩) (fun _ _ _ z => z) q⟩
/-- a if t else b -/
def dIf (t : DT) (ta tb : DE) : DE := fun τ M Q E => t τ M (fun c M1 => if c = true then ta τ M1 Q E else tb τ M1 Q E) E
theorem mono_if {t : DT} (m : MonoT t) (ma : MonoE ta) (mb : MonoE tb) : MonoE (dIf t ta tb) := fun τ M Q Q' E E' h he q => m τ M _ _ _ _ (fun c M1 z => by
  cases c with
  | true => exact ma τ M1 _ _ _ _ h he z
  | false => exact mb τ M1 _ _ _ _ h he z) he q
theorem de_if {t : DT} (hc : DPT C c t) (ha : DPE C a ta) (hb : DPE C b tb) : DPE C (.IfExp c a b pos) (dIf t ta tb) := ⟨mono_if hc.mono ha.mono hb.mono, fun pins s σ H τ M Q I er sr q => by
  refine wpAny_IfExp (thn (hc.go _ pins s σ H τ M _ (.inl rfl) I er sr q) fun k s1 ⟨H1, M1, I1, g1, q1⟩ => ?_)
  cases k with
  | true => exact thn (ha.go pins s1 σ H1 τ M1 Q I1 (er.keep g1.keep) (sr.go g1) q1) fun _ _ z => z.go g1
  | false => exact thn (hb.go pins s1 σ H1 τ M1 Q I1 (er.keep g1.keep) (sr.go g1) q1) fun _ _ z => z.go g1⟩
/-- a < b <= c: the middle one is asked once -/
def dChain (f g : O2) (ta tb tc : DE) : DE := fun τ M Q E => ta τ M (fun x M1 => tb τ M1 (fun y M2 => ok1 (f x y M2) fun z => ok1 (bool1 z) fun k =>
  if k = true then tc τ M2 (fun w M3 => ok1 (g y w M3) fun z => Q z M3) E else Q (.bl false) M2) E) E
theorem mono_chain {f g : O2} (ma : MonoE ta) (mb : MonoE tb) (mc : MonoE tc) : MonoE (dChain f g ta tb tc) := fun τ M Q Q' E E' h he q =>
  ma τ M _ _ _ _ (fun x M1 => mb τ M1 _ _ _ _ (fun y M2 => ok1_mono fun z => ok1_mono fun k w => by
    cases k with
    | true => exact mc τ M2 _ _ _ _ (fun v M3 => ok1_mono fun z => h z M3) he w
    | false => exact h _ _ w) he) he q
end
end DL

/-! Chains; statements. -/
namespace DL
open PySem PySem.Spec PyProof.Rows L2
section
variable {C : DC} {e a b c : Expr} {es : List Expr} {pos : Pos} {ta tb tc : DE} {st : Stmt} {rest sts : List Stmt} {t u : DS}
theorem chain_end {G : Value → Value → Sem Value} {g : O2} (ho : DOp C G g) (hc : DPE C c tc) {pins : List (Addr × Obj)} {s : Shared} {σ : L2.St} {H H3 : Hp} {τ : Sd} {M M3 : Mp} {Q : DK} {y : V} {u : Value} {e : D} (I : Inv C.X pins σ H3 s) (er : EnvR C.X.K H M τ σ) (sr : SR C H M)
    (g3 : Go C H M H3 M3) (r2 : RelV y u) (dn : Den C.X.K H3 M3 e y) (q : tc τ M3 (fun w M4 => ok1 (g e w M4) fun z => Q z M4) (xw C τ)) :
    wpAny (model C.X.prog C.X.w) C.X.A (eval c C.X.env) (fun w s₂ => wpAny (model C.X.prog C.X.w) C.X.A (G u w) (EPD C pins σ H M Q) C.X.xe s₂) C.X.xe s := by
  refine thn (hc.go pins s σ H3 τ M3 _ I (er.keep g3.keep) (sr.go g3) q) fun w s4 ⟨x4, H4, d4, M4, I4, r4, g4, dn4, q4⟩ => ?_
  obtain ⟨z, ez, q4⟩ := ok1_ex q4
  refine thn (ho pins s4 σ H4 M4 y x4 u w e d4 z I4 ((sr.go g3).go g4) r2 r4 (Den.keep g4.keep e dn) dn4 ez) fun w5 s5 ⟨wv, H5, z', M5, I5, r5, g5, dn5, e5, e6⟩ => ?_
  subst e5; subst e6
  exact ⟨wv, H5, z', _, I5, r5, (g3.trans g4).trans g5, dn5, q4⟩
theorem de_chain {op op' : CmpOp} {f g : O2} (ho : DOp C (compareOp op) f) (ho' : DOp C (compareOp op') g) (ha : DPE C a ta) (hb : DPE C b tb) (hc : DPE C c tc) (hm : lastMarks [op, op'] [b, c] = false := by with_unfolding_all rfl) :
    DPE C (.Compare a [op, op'] [b, c] pos) (dChain f g ta tb tc) := ⟨mono_chain ha.mono hb.mono hc.mono, fun pins s σ H τ M Q I er sr q => by
  refine Compare_chain (thn (ha.go pins s σ H τ M _ I er sr q) fun v s1 ⟨x, H1, d, M1, I1, r1, g1, dn1, q1⟩ => chain_link (thn (hb.go pins s1 σ H1 τ M1 _ I1 (er.keep g1.keep) (sr.go g1) q1) fun u s2 ⟨y, H2, e, M2, I2, r2, g2, dn2, q2⟩ => ?_)) hm
  obtain ⟨z, ez, q2⟩ := ok1_ex q2
  obtain ⟨k, ek, q2⟩ := ok1_ex q2
  refine thn (ho pins s2 σ H2 M2 x y v u d e z I2 ((sr.go g1).go g2) r1 r2 (Den.keep g2.keep d dn1) dn2 ez) fun w s3 ⟨wv, H3, z', M3, I3, r3, g3, dn3, e3, e4⟩ => ?_
  subst e3; subst e4
  have := bool1_den ek dn3 r3
  subst this
  have g123 := (g1.trans g2).trans g3
  refine wpAny_truthy_bool ?_
  cases k with
  | false => exact ite_ff ⟨.bl false, H3, .bl false, _, I3, rfl, g123, by simp only [Den], q2⟩
  | true => exact ite_tt (chain_last (chain_end ho' hc I3 er sr g123 r2 (Den.keep g3.keep e dn2) q2))⟩
theorem dt_chain {op op' : CmpOp} {f g : O2} (ho : DOp C (compareOp op) f) (ho' : DOp C (compareOp op') g) (ha : DPE C a ta) (hb : DPE C b tb) (hc : DPE C c tc) (hm : lastMarks [op, op'] [b, c] = false := by with_unfolding_all rfl) :
    DPT C (.Compare a [op, op'] [b, c] pos) (tOf (dChain f g ta tb tc)) := ⟨mono_tOf (mono_chain ha.mono hb.mono hc.mono), fun whole pins s σ H τ M Q _ I er sr q => by
  refine isTrue_chain (thn (ha.go pins s σ H τ M _ I er sr q) fun v s1 ⟨x, H1, d, M1, I1, r1, g1, dn1, q1⟩ => test_link (thn (hb.go pins s1 σ H1 τ M1 _ I1 (er.keep g1.keep) (sr.go g1) q1) fun u s2 ⟨y, H2, e, M2, I2, r2, g2, dn2, q2⟩ => ?_)) hm
  obtain ⟨z, ez, q2⟩ := ok1_ex q2
  obtain ⟨k, ek, q2⟩ := ok1_ex q2
  refine thn (ho pins s2 σ H2 M2 x y v u d e z I2 ((sr.go g1).go g2) r1 r2 (Den.keep g2.keep d dn1) dn2 ez) fun w s3 ⟨wv, H3, z', M3, I3, r3, g3, dn3, e3, e4⟩ => ?_
  subst e3; subst e4
  have := bool1_den ek dn3 r3
  subst this
  have g123 := (g1.trans g2).trans g3
  refine wpAny_truthy_bool ?_
  cases k with
  | false =>
    obtain ⟨k2, e2, q3⟩ := ok1_ex (show ok1 (bool1 (.bl false)) (fun b => Q b _) from q2)
    cases (show some false = some k2 from e2)
    exact ite_ff ⟨H3, _, I3, g123, q3⟩
  | true =>
    refine ite_tt (test_last (thn (chain_end (Q := fun d M1 => ok1 (bool1 d) fun b => Q b M1) ho' hc I3 er sr g123 r2 (Den.keep g3.keep e dn2) q2) fun w4 s4 h4 => thn h4 fun w5 s5 ⟨x5, H5, d5, M5, I5, r5, g5, dn5, q5⟩ => ?_))
    obtain ⟨k2, ek2, q6⟩ := ok1_ex q5
    have := bool1_den ek2 dn5 r5
    subst this
    exact wpAny_truthy_bool ⟨H5, M5, I5, g5, q6⟩⟩

/-! ### statements -/
def sNext : DS := fun D τ M => D.nx τ M
def sSeq (t u : DS) : DS := fun D τ M => t { D with nx := u D } τ M
theorem le_nx {a b : DEnds} {f g : Sd → Mp → Prop} (h : a.Le b) (k : ∀ τ M, f τ M → g τ M) : DEnds.Le { a with nx := f } { b with nx := g } := ⟨k, h.rt, h.bk, h.ct, h.ex⟩
theorem monoS_next : MonoS sNext := fun a b τ M h q => h.nx τ M q
theorem monoS_seq (m : MonoS t) (n : MonoS u) : MonoS (sSeq t u) := fun a b τ M h q => m _ _ τ M (le_nx h fun τ' M' z => n a b τ' M' h z) q
theorem SPD.go {pins : List (Addr × Obj)} {H H1 : Hp} {M M1 : Mp} {D : DEnds} {f : Flow} {s : Shared} (g : Go C H M H1 M1) (h : SPD C pins H1 M1 D f s) : SPD C pins H M D f s := by
  cases f with
  | next => obtain ⟨σ', H', τ', M', I, er, g2, q⟩ := h; exact ⟨σ', H', τ', M', I, er, g.trans g2, q⟩
  | brk => obtain ⟨σ', H', τ', M', I, er, g2, q⟩ := h; exact ⟨σ', H', τ', M', I, er, g.trans g2, q⟩
  | cont => obtain ⟨σ', H', τ', M', I, er, g2, q⟩ := h; exact ⟨σ', H', τ', M', I, er, g.trans g2, q⟩
  | ret u => obtain ⟨v, σ', H', d, M', I, r, g2, dn, q⟩ := h; exact ⟨v, σ', H', d, M', I, r, g.trans g2, dn, q⟩
theorem dss_nil : DPSs C [] sNext := ⟨monoS_next, fun pins s σ H τ M D I er sr q => wpAny_execs_nil ⟨σ, H, τ, M, I, er, Go.refl sr, q⟩⟩
theorem dss_cons (h1 : DPS C st t) (h2 : DPSs C rest u) : DPSs C (st :: rest) (sSeq t u) := ⟨monoS_seq h1.mono h2.mono, fun pins s σ H τ M D I er sr q => by
  refine wpAny_execs_cons (thn (h1.go pins s σ H τ M { D with nx := u { D with ex := C.W } } I er sr q) fun f s1 q1 => ?_)
  cases f with
  | next =>
    obtain ⟨σ', H', τ', M', I1, er1, g1, q1⟩ := q1
    exact thn (h2.go pins s1 σ' H' τ' M' D I1 er1 (sr.go g1) q1) fun f s' z => z.go g1
  | ret v => exact q1
  | brk => exact q1
  | cont => exact q1⟩
theorem dss_one (h1 : DPS C st t) : DPSs C [st] t := ⟨h1.mono, fun pins s σ H τ M D I er sr q => by
  refine wpAny_execs_cons (thn (h1.go pins s σ H τ M D I er sr q) fun f s1 q1 => ?_)
  cases f with
  | next => exact wpAny_execs_nil q1
  | ret v => exact q1
  | brk => exact q1
  | cont => exact q1⟩
def sBreak : DS := fun D τ M => D.bk τ M
def sCont : DS := fun D τ M => D.ct τ M
theorem ds_pass : DPS C (.Pass pos) sNext := ⟨monoS_next, fun pins s σ H τ M D I er sr q => wpAny_Pass ⟨σ, H, τ, M, I, er, Go.refl sr, q⟩⟩
theorem ds_break : DPS C (.Break pos) sBreak := ⟨fun a b τ M h q => h.bk τ M q, fun pins s σ H τ M D I er sr q => wpAny_Break ⟨σ, H, τ, M, I, er, Go.refl sr, q⟩⟩
theorem ds_continue : DPS C (.Continue pos) sCont := ⟨fun a b τ M h q => h.ct τ M q, fun pins s σ H τ M D I er sr q => wpAny_Continue ⟨σ, H, τ, M, I, er, Go.refl sr, q⟩⟩
def sDrop (te : DE) : DS := fun D τ M => te τ M (fun _ M1 => D.nx τ M1) fun c fs M1 => D.ex c fs τ M1
theorem monoS_drop {te : DE} (m : MonoE te) : MonoS (sDrop te) := fun a b τ M h q => m τ M _ _ _ _ (fun _ M1 => h.nx τ M1) (fun c fs M1 => h.ex c fs τ M1) q
theorem ds_expr {te : DE} (he : DPE C e te) (hs : swapsWith e none pos.line C.X.env = pure false := by rfl) : DPS C (.Expr e pos) (sDrop te) := ⟨monoS_drop he.mono, fun pins s σ H τ M D I er sr q =>
  wpAny_Expr_any (thn (he.go pins s σ H τ M _ I er sr q) fun v s1 ⟨x, H1, d, M1, I1, r1, g1, dn1, q1⟩ => ⟨σ, H1, τ, M1, I1, er.keep g1.keep, g1, q1⟩) I.quiet hs⟩
def sRet (te : DE) : DS := fun D τ M => te τ M D.rt fun c fs M1 => D.ex c fs τ M1
theorem monoS_ret {te : DE} (m : MonoE te) : MonoS (sRet te) := fun a b τ M h q => m τ M _ _ _ _ h.rt (fun c fs M1 => h.ex c fs τ M1) q
theorem ds_ret {te : DE} (he : DPE C e te) : DPS C (.Return (some e) pos) (sRet te) := ⟨monoS_ret he.mono, fun pins s σ H τ M D I er sr q =>
  wpAny_Return_some (thn (he.go pins s σ H τ M _ I er sr q) fun v s1 ⟨x, H1, d, M1, I1, r1, g1, dn1, q1⟩ => ⟨x, σ, H1, d, M1, I1, r1, g1, dn1, q1⟩)⟩
def sIf (c : DT) (t u : DS) : DS := fun D τ M => c τ M (fun k M1 => if k = true then t D τ M1 else u D τ M1) fun c fs M1 => D.ex c fs τ M1
theorem monoS_if {c : DT} (m : MonoT c) (n : MonoS t) (o : MonoS u) : MonoS (sIf c t u) := fun a b τ M h q => m τ M _ _ _ _ (fun k M1 z => by
  cases k with
  | true => exact n a b τ M1 h z
  | false => exact o a b τ M1 h z) (fun c fs M1 => h.ex c fs τ M1) q
theorem ds_if {c : Expr} {x y : List Stmt} {tc : DT} (hc : DPT C c tc) (hx : DPSs C x t) (hy : DPSs C y u) : DPS C (.If c x y pos) (sIf tc t u) := ⟨monoS_if hc.mono hx.mono hy.mono, fun pins s σ H τ M D I er sr q => by
  refine wpAny_If (thn (hc.go _ pins s σ H τ M _ (.inl rfl) I er sr q) fun k s1 ⟨H1, M1, I1, g1, q1⟩ => ?_)
  cases k with
  | true => exact thn (hx.go pins s1 σ H1 τ M1 D I1 (er.keep g1.keep) (sr.go g1) q1) fun _ _ z => z.go g1
  | false => exact thn (hy.go pins s1 σ H1 τ M1 D I1 (er.keep g1.keep) (sr.go g1) q1) fun _ _ z => z.go g1⟩
def sNever : DS := fun _ _ _ => False
theorem ds_never : DPS C st sNever := ⟨fun _ _ _ _ _ q => q, fun _ _ _ _ _ _ _ _ _ _ q => q.elim⟩
theorem dss_never : DPSs C sts sNever := ⟨fun _ _ _ _ _ q => q, fun _ _ _ _ _ _ _ _ _ _ q => q.elim⟩

/-! ### targets -/
abbrev DG := D → Sd → Mp → (Sd → Mp → Prop) → Prop
abbrev DGs := List D → Sd → Mp → (Sd → Mp → Prop) → Prop
def MonoG (t : DG) : Prop := ∀ (d : D) (τ : Sd) (M : Mp) (Q Q' : Sd → Mp → Prop), (∀ d M', Q d M' → Q' d M') → t d τ M Q → t d τ M Q'
def MonoGs (t : DGs) : Prop := ∀ (d : List D) (τ : Sd) (M : Mp) (Q Q' : Sd → Mp → Prop), (∀ d M', Q d M' → Q' d M') → t d τ M Q → t d τ M Q'
def GPD (C : DC) (pins : List (Addr × Obj)) (H : Hp) (M : Mp) (Q : Sd → Mp → Prop) (s' : Shared) : Prop := ∃ σ' H' τ' M', Inv C.X pins σ' H' s' ∧ EnvR C.X.K H' M' τ' σ' ∧ Go C H M H' M' ∧ Q τ' M'
structure DPG (C : DC) (tg : Expr) (t : DG) : Prop where
  mono : MonoG t
  go : ∀ (pins : List (Addr × Obj)) (s : Shared) (σ : L2.St) (H : Hp) (τ : Sd) (M : Mp) (d : D) (v : V) (u : Value) (Q : Sd → Mp → Prop), Inv C.X pins σ H s → EnvR C.X.K H M τ σ → SR C H M → RelV v u → Den C.X.K H M d v → t d τ M Q →
    wpAny (model C.X.prog C.X.w) C.X.A (assign tg C.X.env u) (fun _ s' => GPD C pins H M Q s') C.X.xe s
structure DPGs (C : DC) (ts : List Expr) (t : DGs) : Prop where
  mono : MonoGs t
  go : ∀ (pins : List (Addr × Obj)) (s : Shared) (σ : L2.St) (H : Hp) (τ : Sd) (M : Mp) (ds : List D) (vs : List V) (us : List Value) (Q : Sd → Mp → Prop), Inv C.X pins σ H s → EnvR C.X.K H M τ σ → SR C H M → Vals vs us → DenL C.X.K H M ds vs → t ds τ M Q →
    wpAny (model C.X.prog C.X.w) C.X.A (assignInOrder ((assignEach ts C.X.env).map (·.2)) us) (fun _ s' => GPD C pins H M Q s') C.X.xe s
def gVar (i : Nat) : DG := fun d τ M Q => Q (setV τ i (some d)) M
theorem monoG_var {i : Nat} : MonoG (gVar i) := fun d τ M Q Q' h q => h _ _ q
theorem dg_name {i : Nat} {x : Str} (hi : C.X.N[i]? = some x) (hx : Loc C.X.env.scope x) (hf : C.X.fn x = true ∨ C.X.env.scope.names.lookup x = some .local := by first | exact .inl rfl | exact .inr rfl | assumption) : DPG C (.Name x pos) (gVar i) :=
  ⟨monoG_var, fun pins s σ H τ M d v u Q I er sr r dn q => wpAny_assign_Name (store_ok I C.nd hi hx r (fun s' I' => ⟨_, H, _, M, I', by rw [setV_set]; exact er.set dn, Go.refl sr, q⟩) hf)⟩
def gNil : DGs := fun ds τ M Q => match ds with
  | [] => Q τ M
  | _ => False
def gCons (t : DG) (r : DGs) : DGs := fun ds τ M Q => match ds with
  | d :: ds => t d τ M (fun τ' M' => r ds τ' M' Q)
  | [] => False
theorem monoG_nil : MonoGs gNil := fun ds τ M Q Q' h q => by
  cases ds with
  | nil => exact h _ _ q
  | cons => exact q
theorem monoG_cons {t : DG} {r : DGs} (m : MonoG t) (n : MonoGs r) : MonoGs (gCons t r) := fun ds τ M Q Q' h q => by
  cases ds with
  | nil => exact q
  | cons d ds => exact m d τ M _ _ (fun τ' M' => n ds τ' M' _ _ h) q
theorem dgs_nil : DPGs C [] gNil := ⟨monoG_nil, fun pins s σ H τ M ds vs us Q I er sr r l q => by
  cases ds with
  | cons => exact q.elim
  | nil =>
    simp only [DenL] at l
    subst l
    cases r
    exact assignInOrder_nil ⟨σ, H, τ, M, I, er, Go.refl sr, q⟩⟩
theorem dgs_cons {t : DG} {r : DGs} (h1 : DPG C e t) (h2 : DPGs C es r) (hs : (assignEach (e :: es) C.X.env).map (·.2) = assign e C.X.env :: (assignEach es C.X.env).map (·.2) := by rfl) : DPGs C (e :: es) (gCons t r) :=
  ⟨monoG_cons h1.mono h2.mono, fun pins s σ H τ M ds vs us Q I er sr rv l q => by
  cases ds with
  | nil => exact q.elim
  | cons d ds =>
    simp only [DenL] at l
    obtain ⟨v, vs, rfl, dn, l⟩ := l
    cases rv with
    | cons ru rr =>
      rw [hs]
      refine assignInOrder_cons (thn (h1.go pins s σ H τ M d v _ _ I er sr ru dn q) fun _ s1 ⟨σ1, H1, τ1, M1, I1, er1, g1, q1⟩ => ?_)
      exact thn (h2.go pins s1 σ1 H1 τ1 M1 ds vs _ Q I1 er1 (sr.go g1) rr (l.keep g1.keep) q1) fun _ s2 ⟨σ2, H2, τ2, M2, I2, er2, g2, q2⟩ => ⟨σ2, H2, τ2, M2, I2, er2, g1.trans g2, q2⟩⟩
/-- (a, b, ..) = a tuple of so many -/
def gTup (n : Nat) (t : DGs) : DG := fun d τ M Q => match d with
  | .tup ds => ds.length = n ∧ t ds τ M Q
  | _ => False
theorem monoG_tup {n : Nat} {t : DGs} (m : MonoGs t) : MonoG (gTup n t) := fun d τ M Q Q' h q => by
  cases d <;> first | exact ⟨q.1, m _ τ M _ _ h q.2⟩ | exact q
theorem tup_of {pins : List (Addr × Obj)} {s : Shared} {σ : L2.St} {H : Hp} {M : Mp} {ds : List D} {v : V} {u : Value} (I : Inv C.X pins σ H s) (r : RelV v u) (dn : Den C.X.K H M (.tup ds) v) :
    ∃ a vs its, v = .ref a ∧ u = .ref a ∧ TpAt C.X.K H M a vs ∧ DenL C.X.K H M ds vs ∧ Vals vs its ∧ IsTup s.heap a its.toArray ∧ ds.length ≤ sizeLine ∧ its.length = ds.length := by
  simp only [Den] at dn
  obtain ⟨a, vs, rfl, t, l⟩ := dn
  obtain ⟨its, rv, ht, hz⟩ := I.tuple t.sq
  exact ⟨a, vs, its, rfl, r, t, l, rv, ht, by rw [← l.length]; exact hz, by rw [← rv.length, l.length]⟩
theorem dg_tup {k n : Nat} {t : DGs} (hc : C.X.calm = true) (h : DPGs C es t) (hn : (assignEach es C.X.env).length = n := by rfl) (hst : (assignEach es C.X.env).findIdx? (·.1) = none := by rfl) : DPG C (.Tuple es k pos) (gTup n t) :=
  ⟨monoG_tup h.mono, fun pins s σ H τ M d v u Q I er sr r dn q => by
  cases d <;> try exact q.elim
  rename_i ds
  obtain ⟨hl, q⟩ := q
  obtain ⟨a, vs, its, rfl, rfl, t0, l, rv, ht, hz, hi⟩ := tup_of I r dn
  refine assign_Tuple_tuple (I.ok.hd hc) ht (by simp [hn, ← hl, hi]) hst fun h' hx => ?_
  have I1 : Inv C.X pins σ H { s with heap := h' } := I.kept (t' := s.toks) fun b o e => hx b o (Nat.ne_of_lt (Heap.lt_size e)) e
  exact h.go pins _ σ H τ M ds vs _ Q I1 er sr (by simpa using rv) l q⟩
/-- o[i] = v on a list that may be changed -/
def setAt (M : Mp) (o i v : D) : Option Mp := match o, i with
  | .ref a, .int k => match M a with
    | some (.lst xs) => match L2.ixN xs.length k with
      | some j => some (put M a (.lst (xs.set j v)))
      | none => none
    | _ => none
  | _, _ => none
def gSub (to ti : DE) : DG := fun d τ M Q => to τ M (fun o M1 => ti τ M1 (fun i M2 => ok1 (setAt M2 o i d) fun M3 => Q τ M3) fun _ _ _ => False) fun _ _ _ => False
theorem monoG_sub {to ti : DE} (m : MonoE to) (n : MonoE ti) : MonoG (gSub to ti) := fun d τ M Q Q' h q =>
  m τ M _ _ _ _ (fun o M1 => n τ M1 _ _ _ _ (fun i M2 => ok1_mono fun M3 => h τ M3) fun _ _ _ z => z) (fun _ _ _ z => z) q
end
end DL

/-! Stores, loops. -/
namespace DL
open PySem PySem.Spec PyProof.Rows L2
section
variable {C : DC} {e a b c o i tg : Expr} {es : List Expr} {pos : Pos} {ta tb tc to ti te : DE} {st : Stmt} {rest sts body : List Stmt} {t u : DS}
theorem write_lst {H : Hp} {M : Mp} {p : Addr} {xs : List V} {ds es : List D} (sr : SR C H M) (hM : M p = some (.lst es)) (l : DenL C.X.K H M ds xs) : Go C H M (upd H p (.lst xs)) (put M p (.lst ds)) := by
  refine ⟨Keep.write hM (fun z => nomatch z), sr.abs.write hM (fun z => nomatch z) l, TabsUpd sr.tab ?_ fun _ z => nomatch z⟩
  obtain ⟨vs, e, _⟩ := sr.abs p _ hM
  exact .inr ⟨vs, e⟩
theorem setAt_some {M M' : Mp} {o i v : D} (h : setAt M o i v = some M') : ∃ a k xs j, o = .ref a ∧ i = .int k ∧ M a = some (.lst xs) ∧ L2.ixN xs.length k = some j ∧ M' = put M a (.lst (xs.set j v)) := by
  cases o <;> cases i <;> simp only [setAt, reduceCtorEq] at h
  rename_i a k
  split at h <;> try cases h
  rename_i xs hx
  split at h <;> try cases h
  rename_i j hj
  exact ⟨a, k, xs, j, rfl, rfl, hx, hj, rfl⟩
theorem dg_sub (ho : DPE C o to) (hi : DPE C i ti) (ha : ∀ v, assign (.Subscript o i pos) C.X.env v = (do
      let ov ← holding [v] (eval o C.X.env)
      let iv ← holding [v, ov] (eval i C.X.env)
      standAt pos
      holding [v, ov, iv] (setItem ov iv v)
      release [v, ov, iv] []) := by intro _; rfl) : DPG C (.Subscript o i pos) (gSub to ti) :=
  ⟨monoG_sub ho.mono hi.mono, fun pins s σ H τ M d v u Q I er sr r dn q => by
  rw [ha]
  refine wpAny_bind (wpAny_holding (thn (ho.go pins s σ H τ M _ I er sr (ho.mono _ _ _ _ _ _ (fun _ _ z => z) (fun _ _ _ z => z.elim) q)) fun ov s1 ⟨x1, H1, d1, M1, I1, r1, g1, dn1, q1⟩ => ?_))
  refine wpAny_bind (wpAny_holding (thn (hi.go pins s1 σ H1 τ M1 _ I1 (er.keep g1.keep) (sr.go g1) (hi.mono _ _ _ _ _ _ (fun _ _ z => z) (fun _ _ _ z => z.elim) q1)) fun iv s2 ⟨x2, H2, d2, M2, I2, r2, g2, dn2, q2⟩ => ?_))
  obtain ⟨M3, e3, q3⟩ := ok1_ex q2
  have dn1' := Den.keep g2.keep _ dn1
  have dv := Den.keep (g1.trans g2).keep _ dn
  obtain ⟨p, k, xs, j, rfl, rfl, hp, hj, rfl⟩ := setAt_some e3
  simp only [Den] at dn1' dn2
  subst dn1'; subst dn2
  have sr2 := (sr.go g1).go g2
  obtain ⟨vs, hH, l⟩ := sr2.abs p _ hp
  have hl := l.length
  have g3 := write_lst sr2 hp (l.set (i := j) dv)
  refine wpAny_bind (wpAny_standAt (wpAny_bind (wpAny_holding (thn (set_list pins s2 σ H2 _ _ v ov iv u (fun H3 => H3 = upd H2 p (.lst (vs.set j v))) I2 r1 r2 r ⟨p, vs, k, j, rfl, rfl, hH, by rw [hl]; exact hj, rfl⟩) fun _ s3 ⟨H3, I3, e⟩ => ?_))))
  subst e
  exact wpAny_release ⟨σ, _, τ, _, I3, er.keep ((g1.trans g2).trans g3).keep, (g1.trans g2).trans g3, q3⟩⟩

/-! ### stores -/
def sAsg (te : DE) (g : DG) : DS := fun D τ M => te τ M (fun d M1 => g d τ M1 D.nx) fun c fs M1 => D.ex c fs τ M1
theorem monoS_asg {g : DG} (m : MonoE te) (n : MonoG g) : MonoS (sAsg te g) := fun a b τ M h q => m τ M _ _ _ _ (fun d M1 => n d τ M1 _ _ h.nx) (fun c fs M1 => h.ex c fs τ M1) q
theorem ds_asg {g : DG} (he : DPE C e te) (hg : DPG C tg g) (hs : swapsWithSole [tg] e pos.line C.X.env = pure false := by rfl) (hw : swappedStores [tg] e C.X.env = pure none := by rfl) (h1 : (assignEach [tg] C.X.env).map (·.2) = [assign tg C.X.env] := by rfl) : DPS C (.Assign [tg] e pos) (sAsg te g) :=
  ⟨monoS_asg he.mono hg.mono, fun pins s σ H τ M D I er sr q => by
  refine wpAny_Assign_stores (thn (he.go pins s σ H τ M _ I er sr q) fun v s1 ⟨x, H1, d, M1, I1, r1, g1, dn1, q1⟩ => ?_) hs hw
  rw [h1]
  exact thn (hg.go pins s1 σ H1 τ M1 d x v _ I1 (er.keep g1.keep) (sr.go g1) r1 dn1 q1) fun _ s2 ⟨σ2, H2, τ2, M2, I2, er2, g2, q2⟩ => ⟨σ2, H2, τ2, M2, I2, er2, g1.trans g2, q2⟩⟩
theorem ds_set {j : Nat} {x : Str} {pos' : Pos} (he : DPE C e te) (hi : C.X.N[j]? = some x) (hx : Loc C.X.env.scope x) (hs : swapsWith e (some (.Name x pos')) pos.line C.X.env = pure false := by rfl) (hf : C.X.fn x = true ∨ C.X.env.scope.names.lookup x = some .local := by first | exact .inl rfl | exact .inr rfl | assumption) :
    DPS C (.Assign [.Name x pos'] e pos) (sAsg te (gVar j)) :=
  ⟨monoS_asg he.mono monoG_var, fun pins s σ H τ M D I er sr q => by
  refine wpAny_Assign_Name (thn (he.go pins s σ H τ M _ I er sr q) fun v s1 ⟨y, H1, d, M1, I1, r1, g1, dn1, q1⟩ => ?_) hs
  exact store_ok I1 C.nd hi hx r1 (fun s2 I2 => ⟨_, H1, _, M1, I2, by rw [setV_set]; exact (er.keep g1.keep).set dn1, g1, q1⟩) hf⟩
/-- a, b = x, y with plain local names -/
def sPar (i j : Nat) (t : DA) : DS := fun D τ M => t τ M (fun ds M1 => match ds with
  | [x, y] => D.nx (setV (setV τ i (some x)) j (some y)) M1
  | _ => False) fun c fs M1 => D.ex c fs τ M1
theorem monoS_par {i j : Nat} {t : DA} (m : MonoA t) : MonoS (sPar i j t) := fun a b τ M h q => m τ M _ _ _ _ (fun ds M1 z => by
  revert z
  split
  · exact h.nx _ _
  · exact id) (fun c fs M1 => h.ex c fs τ M1) q

/-! ### what is walked -/
/-- an iterator that yields the data ds one behind the other, while ok holds of what changed -/
structure Feeds (C : DC) (J : It) (ds : List D) (ok : Mp → Prop) (H0 : Hp) (M0 : Mp) : Prop where
  size : ds.length ≤ sizeLine
  step : ∀ (i : Nat) (H : Hp) (M : Mp) (d : D), Go C H0 M0 H M → ok M → ds[i]? = some d → J.go i H ∧ ∀ x H', J.yld i H x H' → Go C H M H' M ∧ Den C.X.K H' M d x
  stop : ∀ (i : Nat) (H : Hp) (M : Mp), Go C H0 M0 H M → ok M → ds.length ≤ i → J.stop i H
/-- what a loop walks: the data, what must stay, what changed -/
abbrev DI := Sd → Mp → (List D → (Mp → Prop) → Mp → Prop) → DX → Prop
def MonoI (t : DI) : Prop := ∀ (τ : Sd) (M : Mp) (Q Q' : List D → (Mp → Prop) → Mp → Prop) (E E' : DX), (∀ ds ok M', Q ds ok M' → Q' ds ok M') → (∀ c fs M', E c fs M' → E' c fs M') → t τ M Q E → t τ M Q' E'
def PID (C : DC) (pins : List (Addr × Obj)) (σ : L2.St) (tg : Expr) (H : Hp) (M : Mp) (Q : List D → (Mp → Prop) → Mp → Prop) (itv : Value) (s2 : Shared) : Prop :=
  ∃ (it : Addr) (fp : List Addr) (tn : Nat → Heap → Prop) (J : It) (H' : Hp) (ds : List D) (ok : Mp → Prop) (M' : Mp), itv = .ref it ∧ Inv C.X pins σ H' s2 ∧ Turn C.X.prog C.X.w C.X.K tg J fp it tn ∧ tn 0 s2.heap ∧ (∀ b ∈ fp, FpOk C.X pins H' b) ∧ Go C H M H' M' ∧ Feeds C J ds ok H' M' ∧ Q ds ok M'
structure DPI (C : DC) (tg iter : Expr) (t : DI) : Prop where
  mono : MonoI t
  go : ∀ (pins : List (Addr × Obj)) (s : Shared) (σ : L2.St) (H : Hp) (τ : Sd) (M : Mp) (Q : List D → (Mp → Prop) → Mp → Prop), Inv C.X pins σ H s → EnvR C.X.K H M τ σ → SR C H M → t τ M Q (xw C τ) →
    wpAny (model C.X.prog C.X.w) C.X.A (eval iter C.X.env) (fun v s1 => wpAny (model C.X.prog C.X.w) C.X.A (pyIter v) (PID C pins σ tg H M Q) C.X.xe s1) C.X.xe s
theorem dpi_run {wi : TI} {t : DI} (m : MonoI t) (h : PI C.X tg e wi) (hi : ∀ (pins : List (Addr × Obj)) (s : Shared) (σ : L2.St) (H : Hp) (τ : Sd) (M : Mp) (Q : List D → (Mp → Prop) → Mp → Prop), Inv C.X pins σ H s → EnvR C.X.K H M τ σ → SR C H M → t τ M Q (xw C τ) →
    wi σ H fun J H' => ∃ ds ok M', Go C H M H' M' ∧ Feeds C J ds ok H' M' ∧ Q ds ok M') : DPI C tg e t :=
  ⟨m, fun pins s σ H τ M Q I er sr q => thn (h.run pins s σ H _ I (hi pins s σ H τ M Q I er sr q)) fun v s1 h1 => thn h1 fun itv s2 ⟨it, fp, tn, J, H', e, I2, T, st, f, ds, ok, M', g, fe, q'⟩ => ⟨it, fp, tn, J, H', ds, ok, M', e, I2, T, st, f, g, fe, q'⟩⟩
/-- the loop, turn by turn -/
def forT (ok : Mp → Prop) (g : DG) (tb : DS) (En : DEnds) : List D → Sd → Mp → Prop
  | [], τ, M => ok M ∧ En.nx τ M
  | d :: ds, τ, M => ok M ∧ g d τ M fun τ' M' => tb { En with nx := forT ok g tb En ds, ct := forT ok g tb En ds, bk := En.nx } τ' M'
def sFor (wi : DI) (g : DG) (tb : DS) : DS := fun En τ M => wi τ M (fun ds ok M1 => forT ok g tb En ds τ M1) fun c fs M1 => En.ex c fs τ M1
theorem monoF {ok : Mp → Prop} {g : DG} {tb : DS} (mg : MonoG g) (mb : MonoS tb) {a b : DEnds} (h : a.Le b) : ∀ (ds : List D) (τ : Sd) (M : Mp), forT ok g tb a ds τ M → forT ok g tb b ds τ M
  | [], τ, M, q => ⟨q.1, h.nx _ _ q.2⟩
  | d :: ds, τ, M, q => ⟨q.1, mg d τ M _ _ (fun τ' M' z => mb { a with nx := forT ok g tb a ds, ct := forT ok g tb a ds, bk := a.nx } { b with nx := forT ok g tb b ds, ct := forT ok g tb b ds, bk := b.nx } τ' M' ⟨fun τ2 M2 => monoF mg mb h ds τ2 M2, h.rt, h.nx, fun τ2 M2 => monoF mg mb h ds τ2 M2, h.ex⟩ z) q.2⟩
theorem monoS_for {wi : DI} {g : DG} {tb : DS} (mi : MonoI wi) (mg : MonoG g) (mb : MonoS tb) : MonoS (sFor wi g tb) := fun a b τ M h q =>
  mi τ M _ _ _ _ (fun ds ok M1 z => monoF mg mb h ds τ M1 z) (fun c fs M1 => h.ex c fs τ M1) q
theorem ds_for {iter : Expr} {wi : DI} {g : DG} {tb : DS} (hc : C.X.calm = true) (hi : DPI C tg iter wi) (hg : DPG C tg g) (hb : DPSs C body tb) (hs : ∀ x, foldedSetIterable iter C.X.env x = pure x := by intro _; rfl) : DPS C (.For tg iter body [] pos) (sFor wi g tb) :=
  ⟨monoS_for hi.mono hg.mono hb.mono, fun pins s σ H τ M D I er sr q => by
  refine wpAny_For (thn (hi.go pins s σ H τ M _ I er sr q) fun v s1 h1 => thn h1 fun itv s2 h2 => ?_) hs
  obtain ⟨it, fp, tn, J, H2, ds, ok, M2, rfl, I2, T, st2, f2, g2, fe, q2⟩ := h2
  have stat : ∀ {H' : Hp}, (∀ b ∈ fp, H' b = none) → ∀ b ∈ fp, FpOk C.X pins H' b := fun hn b hb => ⟨hn b hb, (f2 b hb).2⟩
  refine codeAny_forLoop_any (fun n s' => ∃ i σ' H' τ' M', i ≤ ds.length ∧ n = ds.length - i ∧ Inv C.X pins σ' H' s' ∧ EnvR C.X.K H' M' τ' σ' ∧ Go C H2 M2 H' M' ∧ tn i s'.heap ∧ (∀ b ∈ fp, H' b = none) ∧ forT ok g tb { D with ex := C.W } (ds.drop i) τ' M') ?_ ds.length
    ⟨0, σ, H2, τ, M2, Nat.zero_le _, rfl, I2, er.keep g2.keep, Go.refl (sr.go g2), st2, fun b hb => (f2 b hb).1, q2⟩
  rintro n s3 ⟨i, σ3, H3, τ3, M3, hi3, rfl, I3, er3, g3, st3, fr3, w3⟩
  have sr3 := (sr.go g2).go g3
  by_cases hlt : i < ds.length
  · rw [List.drop_eq_getElem_cons hlt] at w3
    obtain ⟨ok3, w3⟩ := w3
    obtain ⟨go, yl⟩ := fe.step i H3 M3 ds[i] g3 ok3 (by simp [hlt])
    refine wpAny_passesOwn C.po (thn (T.item C.X rfl rfl rfl hc i pins s3 σ3 H3 C.X.xe I3 (stat fr3) st3 go) fun r s4 ⟨u, hr, h4⟩ => ?_)
    subst hr
    refine wpAny_passesOwn C.po (thn h4 fun _ s5 ⟨x, H5, I5, r5, y5, st5, fr5⟩ => ?_)
    obtain ⟨g5, dn5⟩ := yl x H5 y5
    have I5' := I5.pinned (stat fr5) (T.obj _ _ st5)
    refine wpAny_passesOwn C.po (thn (hg.go _ s5 σ3 H5 τ3 M3 ds[i] x u _ I5' (er3.keep g5.keep) (sr3.go g5) r5 dn5 w3) fun _ s6 ⟨σ6, H6, τ6, M6, I6, er6, g6, q6⟩ => ?_)
    refine wpAny_passesOwn C.po (thn (hb.go _ s6 σ6 H6 τ6 M6 { D with nx := forT ok g tb { D with ex := C.W } (ds.drop (i + 1)), ct := forT ok g tb { D with ex := C.W } (ds.drop (i + 1)), bk := D.nx } I6 er6 ((sr3.go g5).go g6) q6) fun f s7 q7 => ?_)
    have g56 := g5.trans g6
    have again : ∀ {σ7 : L2.St} {H7 : Hp} {τ7 : Sd} {M7 : Mp}, Inv C.X (pins ++ pinsAt fp s5.heap) σ7 H7 s7 → EnvR C.X.K H7 M7 τ7 σ7 → Go C H6 M6 H7 M7 → forT ok g tb { D with ex := C.W } (ds.drop (i + 1)) τ7 M7 →
        ∃ m, m < ds.length - i ∧ ∃ i σ' H' τ' M', i ≤ ds.length ∧ m = ds.length - i ∧ Inv C.X pins σ' H' s7 ∧ EnvR C.X.K H' M' τ' σ' ∧ Go C H2 M2 H' M' ∧ tn i s7.heap ∧ (∀ b ∈ fp, H' b = none) ∧ forT ok g tb { D with ex := C.W } (ds.drop i) τ' M' := fun {σ7 H7 τ7 M7} I7 er7 g7 n7 => by
      refine ⟨ds.length - (i + 1), by omega, i + 1, σ7, H7, τ7, M7, hlt, rfl, I7.unpinned, er7, g3.trans (g56.trans g7), T.keep _ _ _ st5 fun b hb o e => (I7.pin (b, o) (List.mem_append_right _ (List.mem_append_right _ (mem_pinsAt hb e)))).1, fun b hb => ?_, n7⟩
      obtain ⟨o, e, d⟩ := T.obj _ _ st5 b hb
      exact (I7.pin (b, o) (List.mem_append_right _ (List.mem_append_right _ (mem_pinsAt hb e)))).2.1
    have gall := ((g2.trans g3).trans g56)
    cases f with
    | next => obtain ⟨σ7, H7, τ7, M7, I7, er7, g7, n7⟩ := q7; exact again I7 er7 g7 n7
    | cont => obtain ⟨σ7, H7, τ7, M7, I7, er7, g7, n7⟩ := q7; exact again I7 er7 g7 n7
    | brk => obtain ⟨σ7, H7, τ7, M7, I7, er7, g7, q7⟩ := q7; exact ⟨σ7, H7, τ7, M7, I7.unpinned, er7, gall.trans g7, q7⟩
    | ret v => obtain ⟨x7, σ7, H7, d7, M7, I7, r7, g7, dn7, q7⟩ := q7; exact ⟨x7, σ7, H7, d7, M7, I7.unpinned, r7, gall.trans g7, dn7, q7⟩
  · have e : i = ds.length := by omega
    subst e
    rw [List.drop_length] at w3
    obtain ⟨ok3, w3⟩ := w3
    refine wpAny_passesOwn C.po (thn (T.done C.X rfl rfl rfl hc _ pins s3 σ3 H3 C.X.xe I3 (stat fr3) st3 (fe.stop _ H3 M3 g3 ok3 (Nat.le_refl _))) fun r s4 ⟨hr, I4⟩ => ?_)
    subst hr
    exact wpAny_execs_nil ⟨σ3, H3, τ3, M3, I4, er3, g2.trans g3, w3⟩⟩
end
end DL

/-! What loops and comprehensions walk; while. -/
namespace DL
open PySem PySem.Spec PyProof.Rows L2
section
variable {C : DC} {e a b c tg : Expr} {es elts : List Expr} {p pos tpos : Pos} {te ta tb : DE} {kk : Nat}
def liftA (C : DC) (t : DA) : TA := fun σ H Q => ∃ τ M, EnvR C.X.K H M τ σ ∧ SR C H M ∧ t τ M (fun ds M' => ∀ vs H', Go C H M H' M' → DenL C.X.K H' M' ds vs → Q vs H') (xw C τ)
theorem DPA.pa {t : DA} (h : DPA C es t) : PA C.X es (liftA C t) := ⟨fun pos pins s σ H Q I ⟨τ, M, er, sr, q⟩ =>
  thn (h.go pos pins s σ H τ M _ I er sr q) fun u s' ⟨v, H', d, M', I', r, g, dn, q'⟩ => ⟨v, H', I', r, q' v H' g dn⟩⟩
theorem DenL.one {K : PySem.W.Frag} {H : Hp} {M : Mp} {d : D} {vs : List V} (h : DenL K H M [d] vs) : ∃ v, vs = [v] ∧ Den K H M d v := by
  simp only [DenL] at h
  obtain ⟨v, r, rfl, x, rfl⟩ := h
  exact ⟨v, rfl, x⟩
theorem DenL.two {K : PySem.W.Frag} {H : Hp} {M : Mp} {d e : D} {vs : List V} (h : DenL K H M [d, e] vs) : ∃ v w, vs = [v, w] ∧ Den K H M d v ∧ Den K H M e w := by
  simp only [DenL] at h
  obtain ⟨v, r, rfl, x, w, q, rfl, y, rfl⟩ := h
  exact ⟨v, w, rfl, x, y⟩
theorem DenL.three {K : PySem.W.Frag} {H : Hp} {M : Mp} {d e f : D} {vs : List V} (h : DenL K H M [d, e, f] vs) : ∃ v w z, vs = [v, w, z] ∧ Den K H M d v ∧ Den K H M e w ∧ Den K H M f z := by
  simp only [DenL] at h
  obtain ⟨v, r, rfl, x, w, q, rfl, y, z, o, rfl, k, rfl⟩ := h
  exact ⟨v, w, z, rfl, x, y, k⟩

/-! ### a tuple, a list -/
/-- what must stay while d is walked -/
def okOf (d : D) (xs : List D) : Mp → Prop := match d with
  | .ref a => fun M => M a = some (.lst xs)
  | _ => fun _ => True
def iSeq (te : DE) : DI := fun τ M Q E => te τ M (fun d M1 => ok1 (items M1 d) fun xs => Q xs (okOf d xs) M1) E
theorem monoI_seq (m : MonoE te) : MonoI (iSeq te) := fun τ M Q Q' E E' h he q => m τ M _ _ _ _ (fun d M1 => ok1_mono fun xs => h _ _ _) he q
/-- a sequence at an address -/
theorem seq_of {H : Hp} {M : Mp} {d : D} {xs : List D} {v : V} (ab : Abs C.X.K H M) (dn : Den C.X.K H M d v) (e : items M d = some xs) :
    ∃ a vs, v = .ref a ∧ DenL C.X.K H M xs vs ∧
      (((∃ zs, d = .tup zs) ∧ SqT C.X.K H a vs ∧ ∀ H' M', Keep H M H' M' → SqT C.X.K H' a vs ∧ DenL C.X.K H' M' xs vs) ∨
       ((∀ zs, d ≠ .tup zs) ∧ SqL C.X.K H a vs ∧ ∀ H' M', Keep H M H' M' → Abs C.X.K H' M' → okOf d xs M' → ∃ ws, SqL C.X.K H' a ws ∧ DenL C.X.K H' M' xs ws)) := by
  cases d <;> simp only [items, reduceCtorEq, Option.some.injEq] at e
  case tup ds =>
    subst e
    simp only [Den] at dn
    obtain ⟨a, vs, rfl, t, l⟩ := dn
    exact ⟨a, vs, rfl, l, .inl ⟨⟨_, rfl⟩, t.sq, fun H' M' k => ⟨(t.keep k).sq, l.keep k⟩⟩⟩
  case lst ds =>
    subst e
    simp only [Den] at dn
    obtain ⟨a, vs, rfl, t0, l⟩ := dn
    exact ⟨a, vs, rfl, l, .inr ⟨(fun _ z => nomatch z), t0.sq, fun H' M' k _ _ => ⟨vs, (t0.keepR k.r).sq, l.keep k⟩⟩⟩
  case scr ds =>
    subst e
    simp only [Den] at dn
    obtain ⟨a, vs, rfl, t0, l⟩ := dn
    exact ⟨a, vs, rfl, l, .inr ⟨(fun _ z => nomatch z), t0.sq, fun H' M' k _ _ => ⟨vs, (t0.keepR k.r).sq, l.keep k⟩⟩⟩
  case ref a =>
    obtain ⟨ys, hM, ey⟩ : ∃ ys, M a = some (.lst ys) ∧ ys = xs := by
      split at e
      · rename_i hM; exact ⟨_, hM, Option.some.inj e⟩
      · cases e
    subst ey
    simp only [Den] at dn
    subst dn
    obtain ⟨vs, hH, l⟩ := ab a _ hM
    refine ⟨a, vs, rfl, l, .inr ⟨fun _ z => (nomatch z), .inl (.inl hH), fun H' M' k ab ok => ?_⟩⟩
    obtain ⟨ws, hw, l'⟩ := ab a _ (show M' a = some (.lst ys) from ok)
    exact ⟨ws, .inl (.inl hw), l'⟩
theorem di_seq (h : DPE C e te) : DPI C tg e (iSeq te) := ⟨monoI_seq h.mono, fun pins s σ H τ M Q I er sr q => by
  refine thn (h.go pins s σ H τ M _ I er sr q) fun v s1 ⟨x, H1, d, M1, I1, r1, g1, dn1, q1⟩ => ?_
  obtain ⟨xs, ex, q1⟩ := ok1_ex q1
  obtain ⟨a, vs, rfl, l, hs⟩ := seq_of (sr.go g1).abs dn1 ex
  obtain rfl : v = .ref a := r1
  have sr1 := sr.go g1
  have hl := l.length
  rcases hs with ⟨_, hq, stay⟩ | ⟨_, hq, stay⟩
  · obtain ⟨its, rv, pt, hz⟩ := I1.tuple hq
    rw [hl] at hz
    refine wpAny_pyIter_tuple (show s1.heap.IsTuple a its.toArray from pt) ?_
    refine ⟨s1.heap.objs.size, [s1.heap.objs.size], _, Itt C.X.K a, H1, xs, okOf d xs, M1, rfl, I1.kept (t' := s1.toks) fun b o e => Heap.get?_push_of_some _ e, turn_tuple a _, ⟨_, Heap.get?_push_size _ rfl, rfl, rfl⟩, fun b hb => ?_, g1, ⟨hz, fun i H M d' g ok hd => ?_, fun i H M g ok hi => ?_⟩, q1⟩
    · have e : b = s1.heap.objs.size := by simpa using hb
      subst e
      exact I1.fpOk (Nat.le_refl _) (I1.hok.fresh (Nat.le_refl _))
    · obtain ⟨h1, h2⟩ := stay H M g.keep
      obtain ⟨w, hw, dw⟩ := h2.get hd
      refine ⟨⟨vs, w, h1, hw⟩, fun x H' y => ?_⟩
      obtain ⟨rfl, y⟩ := y
      have := y vs h1
      rw [hw] at this; cases this
      exact ⟨SR.at g.abs g.tab, dw⟩
    · obtain ⟨h1, h2⟩ := stay H M g.keep
      exact ⟨vs, h1, by omega⟩
  · obtain ⟨its, rv, pl, hz⟩ := I1.list hq
    rw [hl] at hz
    refine wpAny_pyIter_list pl.isList ?_
    refine ⟨s1.heap.objs.size, [s1.heap.objs.size], _, Itl C.X.K a, H1, xs, okOf d xs, M1, rfl, I1.kept (t' := s1.toks) fun b o e => Heap.get?_push_of_some _ e, turn_list a _, ⟨_, Heap.get?_push_size _ rfl, rfl, rfl⟩, fun b hb => ?_, g1, ⟨hz, fun i H M d' g ok hd => ?_, fun i H M g ok hi => ?_⟩, q1⟩
    · have e : b = s1.heap.objs.size := by simpa using hb
      subst e
      exact I1.fpOk (Nat.le_refl _) (I1.hok.fresh (Nat.le_refl _))
    · obtain ⟨ws, h1, h2⟩ := stay H M g.keep g.abs ok
      obtain ⟨w, hw, dw⟩ := h2.get hd
      refine ⟨⟨ws, w, h1, hw⟩, fun x H' y => ?_⟩
      obtain ⟨rfl, y⟩ := y
      have := y ws h1
      rw [hw] at this; cases this
      exact ⟨SR.at g.abs g.tab, dw⟩
    · obtain ⟨ws, h1, h2⟩ := stay H M g.keep g.abs ok
      exact ⟨ws, h1, by rw [h2.length]; omega⟩⟩

/-! ### ranges -/
def rangeD (lo : Int) (n : Nat) : List D := (List.range n).map fun (k : Nat) => D.int (lo + k)
def rangeC (lo c : Int) (n : Nat) : List D := (List.range n).map fun (k : Nat) => D.int (lo + k * c)
def iRange1 (ta : DA) : DI := fun τ M Q E => ta τ M (fun ds M1 => match ds with
  | [.int j] => (-4000000000000000000 ≤ j ∧ j ≤ 16777216) ∧ Q (rangeD 0 j.toNat) (fun _ => True) M1
  | _ => False) E
def iRange2 (ta : DA) : DI := fun τ M Q E => ta τ M (fun ds M1 => match ds with
  | [.int i, .int j] => (-4000000000000000000 ≤ i ∧ i ≤ 4000000000000000000 ∧ -4000000000000000000 ≤ j ∧ j ≤ 4000000000000000000 ∧ j - i ≤ 16777216) ∧ Q (rangeD i (j - i).toNat) (fun _ => True) M1
  | _ => False) E
theorem feeds_range {lo : Int} {n : Nat} {H0 : Hp} {M0 : Mp} (hn : n ≤ 16777216) : Feeds C (Itr lo n) (rangeD lo n) (fun _ => True) H0 M0 where
  size := by rw [sizeLine_eq]; simpa [rangeD] using hn
  step := fun i H M d g _ hd => by
    have hi : i < n := by
      have := (List.getElem?_eq_some_iff.mp hd).1
      simpa [rangeD] using this
    refine ⟨hi, fun x H' y => ?_⟩
    obtain ⟨rfl, rfl⟩ := y
    have e : d = .int (lo + i) := by
      simp [rangeD, hi] at hd
      exact hd.symm
    subst e
    exact ⟨SR.at g.abs g.tab, by simp only [Den]⟩
  stop := fun i H M g _ hi => by
    have z : n ≤ i := by simpa [rangeD] using hi
    exact z
theorem feeds_rangeC {lo c : Int} {n : Nat} {H0 : Hp} {M0 : Mp} (hn : n ≤ 16777216) : Feeds C (Itc lo c n) (rangeC lo c n) (fun _ => True) H0 M0 where
  size := by rw [sizeLine_eq]; simpa [rangeC] using hn
  step := fun i H M d g _ hd => by
    have hi : i < n := by
      have := (List.getElem?_eq_some_iff.mp hd).1
      simpa [rangeC] using this
    refine ⟨hi, fun x H' y => ?_⟩
    obtain ⟨rfl, rfl⟩ := y
    have e : d = .int (lo + i * c) := by
      simp [rangeC, hi] at hd
      exact hd.symm
    subst e
    exact ⟨SR.at g.abs g.tab, by simp only [Den]⟩
  stop := fun i H M g _ hi => by
    have z : n ≤ i := by simpa [rangeC] using hi
    exact z
theorem monoI_range1 {t : DA} (m : MonoA t) : MonoI (iRange1 t) := fun τ M Q Q' E E' h he q => m τ M _ _ _ _ (fun ds M1 z => by
  revert z
  split
  · exact fun z => ⟨z.1, h _ _ _ z.2⟩
  · exact id) he q
theorem monoI_range2 {t : DA} (m : MonoA t) : MonoI (iRange2 t) := fun τ M Q Q' E E' h he q => m τ M _ _ _ _ (fun ds M1 z => by
  revert z
  split
  · exact fun z => ⟨z.1, h _ _ _ z.2⟩
  · exact id) he q
theorem di_range1 {t : DA} (hg : Gl C.X "range") (hm : C.X.mg "range" = none) (ha : DPA C [a] t) (hs : starEach [a] C.X.env = [(false, eval a C.X.env)] := by rfl) : DPI C tg (.Call (.Name "range" p) [a] [] pos) (iRange1 t) :=
  dpi_run (monoI_range1 ha.mono) (pi_range1 hg hm ha.pa hs) fun pins s σ H τ M Q I er sr q => ⟨τ, M, er, sr, ha.mono _ _ _ _ _ _ (fun ds M' z vs H' g l => by
    revert z
    split
    · rename_i j
      intro z
      obtain ⟨v, rfl, dn⟩ := l.one
      simp only [Den] at dn
      subst dn
      exact ⟨j, rfl, by omega, by omega, _, _, M', g, feeds_range (by omega), z.2⟩
    · exact fun z => z.elim) (fun _ _ _ z => z) q⟩
theorem di_range2 {t : DA} (hg : Gl C.X "range") (hm : C.X.mg "range" = none) (ha : DPA C [a, b] t) (hs : starEach [a, b] C.X.env = [(false, eval a C.X.env), (false, eval b C.X.env)] := by rfl) (hs2 : starEach [b] C.X.env = [(false, eval b C.X.env)] := by rfl) :
    DPI C tg (.Call (.Name "range" p) [a, b] [] pos) (iRange2 t) :=
  dpi_run (monoI_range2 ha.mono) (pi_range2 hg hm ha.pa hs hs2) fun pins s σ H τ M Q I er sr q => ⟨τ, M, er, sr, ha.mono _ _ _ _ _ _ (fun ds M' z vs H' g l => by
    revert z
    split
    · rename_i i j
      intro z
      obtain ⟨v, w, rfl, dn, dn2⟩ := l.two
      simp only [Den] at dn dn2
      subst dn; subst dn2
      exact ⟨i, j, rfl, ⟨by omega, by omega, by omega, by omega⟩, _, _, M', g, feeds_range (by omega), z.2⟩
    · exact fun z => z.elim) (fun _ _ _ z => z) q⟩

/-! ### zip of two lists, of two tuples: new pairs -/
def pairs : List D → List D → List D
  | x :: xs, y :: ys => .tup [x, y] :: pairs xs ys
  | _, _ => []
theorem pairs_get : ∀ {xs ys : List D} {i : Nat} {d : D}, (pairs xs ys)[i]? = some d → ∃ x y, xs[i]? = some x ∧ ys[i]? = some y ∧ d = .tup [x, y]
  | [], _, _, _, h => by simp [pairs] at h
  | _ :: _, [], _, _, h => by simp [pairs] at h
  | x :: xs, y :: ys, 0, d, h => by simp [pairs] at h; exact ⟨x, y, rfl, rfl, h.symm⟩
  | x :: xs, y :: ys, i + 1, d, h => by
    obtain ⟨x', y', a, b, e⟩ := pairs_get (xs := xs) (ys := ys) (i := i) (by simpa [pairs] using h)
    exact ⟨x', y', by simpa using a, by simpa using b, e⟩
theorem pairs_length : ∀ (xs ys : List D), (pairs xs ys).length = min xs.length ys.length
  | [], ys => by simp [pairs]
  | _ :: _, [] => by simp [pairs]
  | x :: xs, y :: ys => by simp [pairs, pairs_length xs ys]
/-- whether both are tuples or both are lists -/
def alikeSeq (M : Mp) : D → D → Bool
  | .tup _, .tup _ => true
  | .lst _, .lst _ => true
  | .lst _, .ref _ => true
  | .ref _, .lst _ => true
  | .ref _, .ref _ => true
  | _, _ => false
def iZip (ta : DA) : DI := fun τ M Q E => ta τ M (fun ds M1 => match ds with
  | [x, y] => alikeSeq M1 x y = true ∧ ok1 (items M1 x) fun xs => ok1 (items M1 y) fun ys => Q (pairs xs ys) (fun N => okOf x xs N ∧ okOf y ys N) M1
  | _ => False) E
theorem monoI_zip {t : DA} (m : MonoA t) : MonoI (iZip t) := fun τ M Q Q' E E' h he q => m τ M _ _ _ _ (fun ds M1 z => by
  revert z
  split
  · exact fun z => ⟨z.1, ok1_mono (fun xs => ok1_mono fun ys => h _ _ _) z.2⟩
  · exact id) he q
theorem dpi_run' {wi : TI} {t : DI} (m : MonoI t) (h : PI C.X tg e wi) (hi : ∀ (pins : List (Addr × Obj)) (s : Shared) (σ : L2.St) (H : Hp) (τ : Sd) (M : Mp) (Q : List D → (Mp → Prop) → Mp → Prop), Inv C.X pins σ H s → EnvR C.X.K H M τ σ → SR C H M → t τ M Q (xw C τ) →
    wi σ H fun J H' => ∃ ds ok M', Go C H M H' M' ∧ (∀ s2, Inv C.X pins σ H' s2 → Feeds C J ds ok H' M') ∧ Q ds ok M') : DPI C tg e t :=
  ⟨m, fun pins s σ H τ M Q I er sr q => thn (h.run pins s σ H _ I (hi pins s σ H τ M Q I er sr q)) fun v s1 h1 => thn h1 fun itv s2 ⟨it, fp, tn, J, H', e, I2, T, st, f, ds, ok, M', g, fe, q'⟩ => ⟨it, fp, tn, J, H', ds, ok, M', e, I2, T, st, f, g, fe s2 I2, q'⟩⟩
theorem di_zip {t : DA} (hg : Gl C.X "zip") (hm : C.X.mg "zip" = none) (ha : DPA C [a, b] t) (hs : starEach [a, b] C.X.env = (false, eval a C.X.env) :: starEach [b] C.X.env := by rfl) (hpl : (backTo pos (starEach [b] C.X.env)).any (·.1) = false := by rfl) :
    DPI C (.Tuple elts kk tpos) (.Call (.Name "zip" p) [a, b] [] pos) (iZip t) :=
  dpi_run' (monoI_zip ha.mono) (RZ.pi_zipA hg hm ha.pa hs hpl) fun pins s σ H τ M Q I er sr q => ⟨τ, M, er, sr, ha.mono _ _ _ _ _ _ (fun ds M' z vs H' g l => by
    revert z
    split
    · rename_i x y
      rintro ⟨al, z⟩
      obtain ⟨xs, ex, z⟩ := ok1_ex z
      obtain ⟨ys, ey, z⟩ := ok1_ex z
      obtain ⟨v, w, rfl, dn, dn2⟩ := l.two
      have sr' := sr.go g
      obtain ⟨a1, vs, rfl, l1, h1⟩ := seq_of sr'.abs dn ex
      obtain ⟨a2, ws, rfl, l2, h2⟩ := seq_of sr'.abs dn2 ey
      have hl1 := l1.length
      have hl2 := l2.length
      refine ⟨a1, a2, vs, ws, rfl, ?_⟩
      rcases h1 with ⟨⟨zs, k1⟩, h1, st1⟩ | ⟨k1, h1, st1⟩
      · rcases h2 with ⟨⟨zs', k2⟩, h2, st2⟩ | ⟨k2, h2, st2⟩
        · refine .inr ⟨h1, h2, _, _, M', g, fun s2 I2 => ?_, z⟩
          obtain ⟨_, _, _, hz⟩ := I2.tuple h1
          refine ⟨by rw [pairs_length]; omega, fun i H1 M1 d g1 ok hd => ?_, fun i H1 M1 g1 ok hi => ?_⟩
          · obtain ⟨dx, dy, hx, hy, rfl⟩ := pairs_get hd
            obtain ⟨q1, e1⟩ := st1 H1 M1 g1.keep
            obtain ⟨q2, e2⟩ := st2 H1 M1 g1.keep
            obtain ⟨x1, hx1, dx1⟩ := e1.get hx
            obtain ⟨y1, hy1, dy1⟩ := e2.get hy
            refine ⟨⟨_, _, x1, y1, q1, q2, hx1, hy1⟩, fun v H2 yl => ?_⟩
            obtain ⟨T, x2, y2, rfl, hT, rfl, f1, f2⟩ := yl
            have := f1 _ q1; rw [hx1] at this; cases this
            have := f2 _ q2; rw [hy1] at this; cases this
            exact new_tup (sr'.go g1) hT (.cons dx1 (.cons dy1 .nil))
          · obtain ⟨q1, e1⟩ := st1 H1 M1 g1.keep
            obtain ⟨q2, e2⟩ := st2 H1 M1 g1.keep
            exact ⟨_, _, q1, q2, by rw [pairs_length] at hi; omega⟩
        · subst k1
          cases y <;> simp only [alikeSeq, Bool.false_eq_true] at al
          exact absurd rfl (k2 _)
      · rcases h2 with ⟨⟨zs', k2⟩, h2, st2⟩ | ⟨k2, h2, st2⟩
        · subst k2
          cases x <;> simp only [alikeSeq, Bool.false_eq_true] at al
          exact absurd rfl (k1 _)
        · refine .inl ⟨h1, h2, _, _, M', g, fun s2 I2 => ?_, z⟩
          obtain ⟨_, _, _, hz⟩ := I2.list h1
          refine ⟨by rw [pairs_length]; omega, fun i H1 M1 d g1 ok hd => ?_, fun i H1 M1 g1 ok hi => ?_⟩
          · obtain ⟨dx, dy, hx, hy, rfl⟩ := pairs_get hd
            obtain ⟨us, q1, e1⟩ := st1 H1 M1 g1.keep g1.abs ok.1
            obtain ⟨us', q2, e2⟩ := st2 H1 M1 g1.keep g1.abs ok.2
            obtain ⟨x1, hx1, dx1⟩ := e1.get hx
            obtain ⟨y1, hy1, dy1⟩ := e2.get hy
            refine ⟨⟨_, _, x1, y1, q1, q2, hx1, hy1⟩, fun v H2 yl => ?_⟩
            obtain ⟨T, x2, y2, rfl, hT, rfl, f1, f2⟩ := yl
            have := f1 _ q1; rw [hx1] at this; cases this
            have := f2 _ q2; rw [hy1] at this; cases this
            exact new_tup (sr'.go g1) hT (.cons dx1 (.cons dy1 .nil))
          · obtain ⟨us, q1, e1⟩ := st1 H1 M1 g1.keep g1.abs ok.1
            obtain ⟨us', q2, e2⟩ := st2 H1 M1 g1.keep g1.abs ok.2
            have h1 := e1.length
            have h2 := e2.length
            exact ⟨_, _, q1, q2, by rw [pairs_length] at hi; omega⟩
    · exact fun z => z.elim) (fun _ _ _ z => z) q⟩
end
end DL

/-! Defs and their calls over data; while. -/
namespace DL
open PySem PySem.Spec PyProof.Rows L2
/-- a def's promise over data -/
abbrev DSp := List D → Mp → DK → DX → Prop
def MonoP (sp : DSp) : Prop := ∀ (ds : List D) (M : Mp) (Q Q' : DK) (E E' : DX), (∀ d M', Q d M' → Q' d M') → (∀ c fs M', E c fs M' → E' c fs M') → sp ds M Q E → sp ds M Q' E'
def qH (K : PySem.W.Frag) (T : List (Addr × Str)) (H : Hp) (M : Mp) (Q : DK) : VK := fun v H' => ∃ d M', (Keep H M H' M' ∧ Abs K H' M' ∧ LamX.Tabs T H') ∧ Den K H' M' d v ∧ Q d M'
def eH (K : PySem.W.Frag) (T : List (Addr × Str)) (H : Hp) (M : Mp) (E : DX) : XK := fun cls od H' => ∃ fs M', (Keep H M H' M' ∧ Abs K H' M' ∧ LamX.Tabs T H') ∧ XDen K H' M' od fs ∧ E cls fs M'
structure FnG (P : Program) (w : World) (K : PySem.W.Frag) (mg : Str → Option Value) (base : Heap) (T : List (Addr × Str)) (k : Nat) (f : Addr) (fd : FuncData) (ps : List Str) (sp : DSp) : Prop where
  len : ∀ ds M Q E, sp ds M Q E → ds.length = ps.length
  mono : MonoP sp
  run : ∀ (A : Around) (outer : List Env) (s : Shared) (H : Hp) (M : Mp) (args : Args) (us : List Value) (vs : List V) (ds : List D) (Q : DK) (E : DX), Room k A → A.guards = some [] → Env0 P w K mg base A outer s H → BindsTo s fd args (ps.zip us) → Vals vs us → DenL K H M ds vs → Abs K H M → LamX.Tabs T H → sp ds M Q E →
    codeAny (model P w) A (.call (.ref f) args) (CR (L2.CX P w) outer P w H s (qH K T H M Q) (eH K T H M E)) s
section
variable {P : Program} {w : World} {K : PySem.W.Frag} {mg : Str → Option Value} {base : Heap} {T : List (Addr × Str)}
theorem XDen.sub {H : Hp} {M N : Mp} {od : Option Addr} {fs : DFs} (x : XDen K H M od fs) (sb : Sub N M) : XDen K H N od fs := by
  rcases x with x | ⟨d, gs, a, b, c, f⟩
  · exact .inl x
  · exact .inr ⟨d, gs, a, b, sb.free c, f.keep (Keep.sub sb)⟩
theorem XDen.keep {H H' : Hp} {M M' : Mp} {od : Option Addr} {fs : DFs} (k : Keep H M H' M') (x : XDen K H M od fs) : XDen K H' M' od fs := by
  rcases x with x | ⟨d, gs, a, b, c, f⟩
  · exact .inl x
  · obtain ⟨n, e⟩ := k.at0 c b
    exact .inr ⟨d, gs, a, e.elim id fun ⟨_, _, z, _⟩ => (nomatch z), n, f.keep k⟩
/-- what is told may be told so -/
def Cv (d : D) (M : Mp) (d' : D) (M' : Mp) : Prop := Sub M' M ∧ ∀ (K : PySem.W.Frag) (H : Hp) (v : V), Abs K H M → Den K H M d v → Den K H M' d' v
theorem Cv.sub {d : D} {M M' : Mp} (h : Sub M' M) : Cv d M d M' := ⟨h, fun K H v _ q => Den.keep (Keep.sub h) d q⟩
theorem Cv.refl {d : D} {M : Mp} : Cv d M d M := Cv.sub Sub.refl
theorem Cv.trans {d e f : D} {M N R : Mp} (a : Cv d M e N) (b : Cv e N f R) : Cv d M f R := ⟨b.1.trans a.1, fun K H v x q => b.2 K H v (x.sub a.1) (a.2 K H v x q)⟩
theorem Cv.fix {p : Addr} {M : Mp} {xs : List D} (h : M p = some (.lst xs)) : Cv (.ref p) M (.lst xs) (del M p) := ⟨Sub.of_del, fun K H v x q => by
  simp only [Den] at q
  subst q
  exact Den.fix x h⟩
/-- a def's own context -/
def ctxOf (P : Program) (w : World) (K : PySem.W.Frag) (mg : Str → Option Value) (base : Heap) (T : List (Addr × Str)) (k : Nat) (N : List Str) (qual : Str) (scope : Scope) (f : Addr) (cdv : Value) (A : Around) (outer : List Env) (s : Shared) (H : Hp) (M : Mp) (E : DX)
    (hr : Room k (A.deeper (envOfC qual scope s.heap.objs.size f cdv))) (hg : A.guards = some []) (nd : N.Nodup) : DC where
  X := cxOf (L2.CX P w) P w K mg base N qual scope f cdv A outer s H (eH K T H M E)
  T := T
  M0 := M
  W := fun cls fs _ M' => ∃ N', Sub N' M' ∧ E cls fs N'
  lv := k
  dp := hr.dp
  un := hr.un
  gd := hg
  nd := nd
  po := PassesOwn.leaving
  tk := (takes_of (E := eH K T H M E) rfl rfl rfl rfl).imp fun cls od σ H' ⟨τ, M', fs, _, ⟨g1, g2, g3⟩, x, N', sb, e⟩ => ⟨fs, N', ⟨g1.trans (Keep.sub sb), g2.sub sb, g3⟩, x.sub sb, e⟩
def endF (Q : DK) (E : DX) : DEnds := { nx := fun _ M' => ∃ N', Sub N' M' ∧ Q .non N', rt := fun d M' => ∃ d' N', Cv d M' d' N' ∧ Q d' N', ex := fun c fs _ M' => ∃ N', Sub N' M' ∧ E c fs N' }
/-- THE RULE for a def: a derivation of its body, whatever the context; the reading of its transformer -/
theorem fng_of {x qual : Str} {st : Stmt} {f : Addr} {fd : FuncData} {N ps : List Str} {k : Nat} {sp : DSp} {t : DS} (F : Fun K x qual st f fd) (S : FnScope N ps (defScope st)) (len : ∀ ds M Q E, sp ds M Q E → ds.length = ps.length) (mono : MonoP sp)
    (hbody : ∀ (cdv : Value) (A : Around) (outer : List Env) (s : Shared) (H : Hp) (M : Mp) (E : DX) (hr : Room k (A.deeper (envOfC qual (defScope st) s.heap.objs.size f cdv))) (hg : A.guards = some []),
      DPSs (ctxOf P w K mg base T k N qual (defScope st) f cdv A outer s H M E hr hg S.nd) (defBody st) t)
    (hsp : ∀ (ds : List D) (M : Mp) (Q : DK) (E : DX), sp ds M Q E → t (endF Q E) (startD N ds) M) :
    FnG P w K mg base T (k + 1) f fd ps sp := by
  obtain ⟨oc, od, kV, doc, pm, an, cdv, ct, osl, rfl, lk, hcd⟩ := F.ex
  refine ⟨len, mono, fun A outer s H M args us vs ds Q E hr hg e0 hb r l ab tb q => ?_⟩
  refine LamX.run_ofS (N := N) lk hcd S hr e0 hb r (by rw [l.length]; exact len _ _ _ _ q) fun hr' => ?_
  have hd := hbody cdv A outer s H M E hr' hg
  refine ⟨_, hd.pss, startD N ds, M, EnvR.start l, ⟨Keep.refl, ab, tb⟩, ?_⟩
  refine hd.mono (endF Q E) _ _ _ ⟨fun τ' M' ⟨N', sb, q⟩ σ' H' er g => ?_, fun d M' ⟨d', N', ⟨sb, cv⟩, q⟩ v H' g dn => ?_, fun _ _ z => z.elim, fun _ _ z => z.elim, fun _ _ _ _ z => z⟩ (hsp ds M Q E q)
  · exact ⟨.non, N', ⟨g.keep.trans (Keep.sub sb), g.abs.sub sb, g.tab⟩, by simp only [Den], q⟩
  · exact ⟨d', N', ⟨g.keep.trans (Keep.sub sb), g.abs.sub sb, g.tab⟩, cv K H' v g.abs dn, q⟩
end
section
variable {C : DC} {e a : Expr} {es : List Expr} {x : Str} {p pos : Pos} {f : Addr} {fd : FuncData} {ps : List Str} {sp : DSp} {k : Nat} {t : DA} {body : List Stmt} {tb : DS}
theorem run_fnG {pins : List (Addr × Obj)} {σ : L2.St} {H H0 : Hp} {M M0 : Mp} {s : Shared} {Q : DK} {us : List Value} {vs : List V} {ds : List D} {τ : Sd} (F : FnG C.X.prog C.X.w C.X.K C.X.mg C.X.base C.T k f fd ps sp) (hk : k ≤ C.lv) (hc : C.X.calm = true) (hb : Binds C.X.K fd ps [])
    (I : Inv C.X pins σ H s) (sr0 : SR C H0 M0) (g0 : Go C H0 M0 H M) (er : EnvR C.X.K H M τ σ) (r : Vals vs us) (l : DenL C.X.K H M ds vs) (q : sp ds M Q (xw C τ)) : wpAny (model C.X.prog C.X.w) C.X.A (call (.ref f) us) (EPD C pins σ H0 M0 Q) C.X.xe s := by
  have hl : us.length = ps.length := by rw [← r.length, l.length]; exact F.len _ _ _ _ q
  have b := hb s us I.kIn (by rw [List.append_nil]; exact hl)
  rw [List.append_nil] at b
  refine wpAny_call (codeAny_mono (F.run C.X.A C.X.stack s H M ⟨us, []⟩ us vs ds Q (xw C τ) ((C.room I hc).mono hk) C.gd I.env0 b r l g0.abs g0.tab q) fun r s' hq => ?_)
  cases r with
  | error e =>
    obtain ⟨a, B, H', cls, d, he, fl, hok, ub, na, os, ag, fs, M', ⟨k1, k2, k3⟩, xd, w⟩ := hq
    exact passAt C.tk σ pins H s e s' I ⟨a, B, H', cls, d, he, fl, hok, ub, na, os, ag, τ, M', fs, er.keep k1, ⟨(sr0.go g0).keep.trans k1, k2, k3⟩, xd, w⟩
  | ok fl =>
    cases fl with
    | ret u =>
      obtain ⟨v, H', I', rv, d, M', ⟨k1, k2, k3⟩, dn, q'⟩ := I.after hq
      exact ⟨v, H', d, M', I', rv, g0.trans ⟨k1, k2, k3⟩, dn, q'⟩
    | next => exact False.elim hq
    | brk => exact False.elim hq
    | cont => exact False.elim hq
def dCall (sp : DSp) (t : DA) : DE := fun τ M Q E => t τ M (fun ds M1 => sp ds M1 Q E) E
theorem mono_call (m : MonoP sp) (n : MonoA t) : MonoE (dCall sp t) := fun τ M Q Q' E E' h he q => n τ M _ _ _ _ (fun ds M1 => m ds M1 _ _ _ _ h he) he q
theorem de_call (F : FnG C.X.prog C.X.w C.X.K C.X.mg C.X.base C.T k f fd ps sp) (hk : k ≤ C.lv) (hc : C.X.calm = true) (hg : Gl C.X x) (hm : C.X.mg x = some (.ref f)) (hp : PySem.W.keepIn C.X.K (.ref f) = true) (hb : Binds C.X.K fd ps [])
    (ha : DPA C (e :: es) t) (hdb : (x == ("__debug__" : Str)) = false := by decide) (he : starEach (e :: es) C.X.env = (false, eval e C.X.env) :: starEach es C.X.env := by rfl) (hpl : (backTo pos (starEach es C.X.env)).any (·.1) = false := by rfl) :
    DPE C (.Call (.Name x p) (e :: es) [] pos) (dCall sp t) := ⟨mono_call F.mono ha.mono, fun pins s σ H τ M Q I er sr q => by
  refine wpAny_Call_Name_kw (ld_glob I hg hm ?_ hdb)
  refine PySem.W.callWith_K (h₀ := C.X.base) I.ok.mod.kin hp (thn (ha.go pos pins s σ H τ M _ I er sr q) fun us s1 ⟨vs, H1, ds, M1, I1, r, g, l, q1⟩ => ⟨I1.kIn, ?_⟩) he hpl
  exact run_fnG F hk hc hb I1 sr g (er.keep g.keep) r l q1⟩
theorem de_call0 (F : FnG C.X.prog C.X.w C.X.K C.X.mg C.X.base C.T k f fd ps sp) (hk : k ≤ C.lv) (hc : C.X.calm = true) (hg : Gl C.X x) (hm : C.X.mg x = some (.ref f)) (hp : PySem.W.keepIn C.X.K (.ref f) = true) (hb : Binds C.X.K fd ps [])
    (hdb : (x == ("__debug__" : Str)) = false := by decide) : DPE C (.Call (.Name x p) [] [] pos) (dCall sp dNil) := ⟨mono_call F.mono mono_nil, fun pins s σ H τ M Q I er sr q => by
  refine wpAny_Call_Name_kw (ld_glob I hg hm ?_ hdb)
  exact PySem.W.callWith_K0 I.kIn hp (run_fnG (us := []) F hk hc hb I sr (Go.refl sr) er .nil DenL.nil q)⟩

/-! ### while -/
def sWhile (c : DT) (tb : DS) : DS := fun En τ M => ∃ W : Nat → Sd → Mp → Prop, (∃ m, W m τ M) ∧ ∀ m τ M, W m τ M →
  c τ M (fun b M1 => if b = true then tb { En with nx := fun τ' M' => ∃ m', m' < m ∧ W m' τ' M', ct := fun τ' M' => ∃ m', m' < m ∧ W m' τ' M', bk := En.nx } τ M1 else En.nx τ M1) fun c fs M1 => En.ex c fs τ M1
theorem monoS_while {c : DT} (m : MonoT c) (n : MonoS tb) : MonoS (sWhile c tb) := fun a b τ M h ⟨W, w0, turn⟩ => ⟨W, w0, fun i τ M w => m τ M _ _ _ _ (fun k M1 z => by
  cases k with
  | true => exact n { a with nx := fun τ' M' => ∃ m', m' < i ∧ W m' τ' M', ct := fun τ' M' => ∃ m', m' < i ∧ W m' τ' M', bk := a.nx } { b with nx := fun τ' M' => ∃ m', m' < i ∧ W m' τ' M', ct := fun τ' M' => ∃ m', m' < i ∧ W m' τ' M', bk := b.nx } τ M1 ⟨fun _ _ z => z, h.rt, h.nx, fun _ _ z => z, h.ex⟩ z
  | false => exact h.nx _ _ z) (fun c fs M1 => h.ex c fs τ M1) (turn i τ M w)⟩
theorem ds_while {c : Expr} {tc : DT} (hc : DPT C c tc) (hb : DPSs C body tb) : DPS C (.While c body [] pos) (sWhile tc tb) := ⟨monoS_while hc.mono hb.mono, fun pins s σ H τ M D I er sr ⟨W, ⟨m0, w0⟩, turn⟩ => by
  refine wpAny_While (codeAny_whileLoop (fun n s' => ∃ σ' H' τ' M', Inv C.X pins σ' H' s' ∧ EnvR C.X.K H' M' τ' σ' ∧ Go C H M H' M' ∧ W n τ' M') ?_ m0 ⟨σ, H, τ, M, I, er, Go.refl sr, w0⟩)
  rintro n s1 ⟨σ1, H1, τ1, M1, I1, er1, g1, w1⟩
  refine wpAny_passesOwn C.po (thn (hc.go _ pins s1 σ1 H1 τ1 M1 _ (.inl rfl) I1 er1 (sr.go g1) (turn n τ1 M1 w1)) fun b s2 ⟨H2, M2, I2, g2, q2⟩ => ?_)
  cases b with
  | true =>
    rw [if_pos rfl]
    refine wpAny_passesOwn C.po (thn (hb.go pins s2 σ1 H2 τ1 M2 { D with nx := fun τ' M' => ∃ m', m' < n ∧ W m' τ' M', ct := fun τ' M' => ∃ m', m' < n ∧ W m' τ' M', bk := D.nx } I2 (er1.keep g2.keep) ((sr.go g1).go g2) q2) fun f s3 q3 => ?_)
    have g12 := g1.trans g2
    cases f with
    | next =>
      obtain ⟨σ3, H3, τ3, M3, I3, er3, g3, m', hm, w3⟩ := q3
      exact ⟨m', hm, σ3, H3, τ3, M3, I3, er3, g12.trans g3, w3⟩
    | cont =>
      obtain ⟨σ3, H3, τ3, M3, I3, er3, g3, m', hm, w3⟩ := q3
      exact ⟨m', hm, σ3, H3, τ3, M3, I3, er3, g12.trans g3, w3⟩
    | brk =>
      obtain ⟨σ3, H3, τ3, M3, I3, er3, g3, q⟩ := q3
      exact ⟨σ3, H3, τ3, M3, I3, er3, g12.trans g3, q⟩
    | ret v =>
      obtain ⟨x, σ3, H3, d, M3, I3, r3, g3, dn, q⟩ := q3
      exact ⟨x, σ3, H3, d, M3, I3, r3, g12.trans g3, dn, q⟩
  | false =>
    rw [if_neg Bool.false_ne_true]
    exact wpAny_execs_nil ⟨σ1, H2, τ1, M2, I2, er1.keep g2.keep, g1.trans g2, q2⟩⟩
end
end DL

/-! List comprehensions over data. -/
namespace DL
open PySem PySem.Spec PyProof.Rows L2
/-- a comprehension's block -/
def blk (C : DC) (s : Shared) (H : Hp) (scope : Scope) (cenv : Env) (fp : List Addr) : DC where
  X := C.X.blk s H scope cenv fp
  T := C.T
  M0 := fun _ => some (.ins 0 [])
  W := fun _ _ _ _ => False
  lv := C.lv
  dp := C.dp
  un := C.un
  gd := C.gd
  nd := C.nd
  po := PassesOwn.never
  tk := fun _ _ x => by
    obtain ⟨_, _, _, _, _, _, _, _, _, _, _, _, _, _, _, _, _, _, _, _, _, _, z⟩ := x
    exact z.elim
theorem fxIns {a : Addr} : ¬ Fx (some (.ins a [])) := fun h => by
  rcases h with h | h
  · cases h
  · exact nomatch (Option.some.inj h)
section
variable {C : DC} {e elt tg iter : Expr} {es : List Expr} {pos : Pos} {ifs : List Expr}
theorem blk_sr {s : Shared} {H0 H : Hp} {scope : Scope} {cenv : Env} {fp : List Addr} {M : Mp} (a : Abs C.X.K H M) (t : LamX.Tabs C.T H) : SR (blk C s H0 scope cenv fp) H M := ⟨fun _ _ _ z => (fxIns z).elim, a, t⟩
/-- a clause's tests -/
structure DPTs (C : DC) (ifs : List Expr) (t : DT) : Prop where
  mono : MonoT t
  go : ∀ (pins : List (Addr × Obj)) (s : Shared) (σ : L2.St) (H : Hp) (τ : Sd) (M : Mp) (Q : Bool → Mp → Prop), Inv C.X pins σ H s → EnvR C.X.K H M τ σ → SR C H M → t τ M Q (xw C τ) →
    wpAny (model C.X.prog C.X.w) C.X.A (forIn ifs true fun c r => if r = true then do let ok ← isTrue c C.X.env (eval c C.X.env); pure (ForInStep.yield ok) else pure (ForInStep.yield r)) (TPD C pins σ H M Q) C.X.xe s
def tYesD : DT := fun _ M Q _ => Q true M
theorem dts_nil : DPTs C [] tYesD := ⟨fun τ M Q Q' E E' h _ q => h _ _ q, fun pins s σ H τ M Q I er sr q => wpAny_tests_nil ⟨H, M, I, Go.refl sr, q⟩⟩
theorem dts_one {c : Expr} {t : DT} (h : DPT C c t) : DPTs C [c] t := ⟨h.mono, fun pins s σ H τ M Q I er sr q => wpAny_tests_one (h.go _ pins s σ H τ M Q (.inl rfl) I er sr q)⟩
/-- a target whose names are the block's own -/
structure DPW (C : DC) (tg : Expr) (vs : List Nat) (t : DG) : Prop where
  mono : MonoG t
  go : ∀ (pins : List (Addr × Obj)) (s : Shared) (σ : L2.St) (H : Hp) (τ : Sd) (M : Mp) (d : D) (v : V) (u : Value) (Q : Sd → Mp → Prop), Inv C.X pins σ H s → EnvR C.X.K H M τ σ → SR C H M → RelV v u → Den C.X.K H M d v → t d τ M Q →
    wpAny (model C.X.prog C.X.w) C.X.A (assign tg C.X.env u) (fun _ s' => ∃ σ' H' τ' M', Inv C.X pins σ' H' s' ∧ wipe σ' vs = wipe σ vs ∧ EnvR C.X.K H' M' τ' σ' ∧ Go C H M H' M' ∧ Q τ' M') C.X.xe s
structure DPWs (C : DC) (ts : List Expr) (vs : List Nat) (t : DGs) : Prop where
  mono : MonoGs t
  go : ∀ (pins : List (Addr × Obj)) (s : Shared) (σ : L2.St) (H : Hp) (τ : Sd) (M : Mp) (ds : List D) (ws : List V) (us : List Value) (Q : Sd → Mp → Prop), Inv C.X pins σ H s → EnvR C.X.K H M τ σ → SR C H M → Vals ws us → DenL C.X.K H M ds ws → t ds τ M Q →
    wpAny (model C.X.prog C.X.w) C.X.A (assignInOrder ((assignEach ts C.X.env).map (·.2)) us) (fun _ s' => ∃ σ' H' τ' M', Inv C.X pins σ' H' s' ∧ wipe σ' vs = wipe σ vs ∧ EnvR C.X.K H' M' τ' σ' ∧ Go C H M H' M' ∧ Q τ' M') C.X.xe s
theorem wipe_set {i : Nat} {x : Option V} : ∀ {vs : List Nat} {σ : L2.St}, i ∈ vs → wipe (σ.set i x) vs = wipe σ vs
  | [], _, h => by cases h
  | v :: vs, σ, h => by
    unfold wipe
    by_cases hi : i ∈ vs
    · rw [wipe_set hi]
    · have e : i = v := by
        rcases List.mem_cons.mp h with h | h
        · exact h
        · exact absurd h hi
      subst e
      have : ∀ (vs : List Nat) (σ : L2.St), i ∉ vs → wipe (σ.set i x) vs = (wipe σ vs).set i x := by
        intro vs
        induction vs with
        | nil => intro _ _; rfl
        | cons w ws ih =>
          intro σ hn
          unfold wipe
          rw [ih σ (fun z => hn (List.mem_cons_of_mem _ z)), List.set_comm _ _ (fun z => hn (by rw [z]; exact List.mem_cons_self))]
      rw [this vs σ hi, List.set_set]
theorem dw_name {i : Nat} {x : Str} {vs : List Nat} (hv : i ∈ vs) (hi : C.X.N[i]? = some x) (hx : Loc C.X.env.scope x) (hf : C.X.fn x = true ∨ C.X.env.scope.names.lookup x = some .local := by first | exact .inl rfl | exact .inr rfl | assumption) : DPW C (.Name x pos) vs (gVar i) :=
  ⟨monoG_var, fun pins s σ H τ M d v u Q I er sr r dn q => wpAny_assign_Name (store_ok I C.nd hi hx r (fun s' I' => ⟨_, H, _, M, I', wipe_set hv, by rw [setV_set]; exact er.set dn, Go.refl sr, q⟩) hf)⟩
theorem dws_nil {vs : List Nat} : DPWs C [] vs gNil := ⟨monoG_nil, fun pins s σ H τ M ds ws us Q I er sr r l q => by
  cases ds with
  | cons => exact q.elim
  | nil =>
    simp only [DenL] at l
    subst l
    cases r
    exact assignInOrder_nil ⟨σ, H, τ, M, I, rfl, er, Go.refl sr, q⟩⟩
theorem dws_cons {t : DG} {r : DGs} {vs : List Nat} (h1 : DPW C e vs t) (h2 : DPWs C es vs r) (hs : (assignEach (e :: es) C.X.env).map (·.2) = assign e C.X.env :: (assignEach es C.X.env).map (·.2) := by rfl) : DPWs C (e :: es) vs (gCons t r) :=
  ⟨monoG_cons h1.mono h2.mono, fun pins s σ H τ M ds ws us Q I er sr rv l q => by
  cases ds with
  | nil => exact q.elim
  | cons d ds =>
    simp only [DenL] at l
    obtain ⟨v, ws, rfl, dn, l⟩ := l
    cases rv with
    | cons ru rr =>
      rw [hs]
      refine assignInOrder_cons (thn (h1.go pins s σ H τ M d v _ _ I er sr ru dn q) fun _ s1 ⟨σ1, H1, τ1, M1, I1, e1, er1, g1, q1⟩ => ?_)
      exact thn (h2.go pins s1 σ1 H1 τ1 M1 ds ws _ Q I1 er1 (sr.go g1) rr (l.keep g1.keep) q1) fun _ s2 ⟨σ2, H2, τ2, M2, I2, e2, er2, g2, q2⟩ => ⟨σ2, H2, τ2, M2, I2, e2.trans e1, er2, g1.trans g2, q2⟩⟩
theorem dw_tup {k n : Nat} {t : DGs} {vs : List Nat} (hc : C.X.calm = true) (h : DPWs C es vs t) (hn : (assignEach es C.X.env).length = n := by rfl) (hst : (assignEach es C.X.env).findIdx? (·.1) = none := by rfl) : DPW C (.Tuple es k pos) vs (gTup n t) :=
  ⟨monoG_tup h.mono, fun pins s σ H τ M d v u Q I er sr r dn q => by
  cases d <;> try exact q.elim
  rename_i ds
  obtain ⟨hl, q⟩ := q
  obtain ⟨a, ws, its, rfl, rfl, t0, l, rv, ht, hz, hi⟩ := tup_of I r dn
  refine assign_Tuple_tuple (I.ok.hd hc) ht (by simp [hn, ← hl, hi]) hst fun h' hx => ?_
  have I1 : Inv C.X pins σ H { s with heap := h' } := I.kept (t' := s.toks) fun b o e => hx b o (Nat.ne_of_lt (Heap.lt_size e)) e
  exact h.go pins _ σ H τ M ds ws _ Q I1 er sr (by simpa using rv) l q⟩

def wipeD (τ : Sd) : List Nat → Sd
  | [] => τ
  | v :: vs => setV (wipeD τ vs) v none
theorem EnvR.wipe {K : PySem.W.Frag} {H : Hp} {M : Mp} {τ : Sd} {σ : L2.St} (er : EnvR K H M τ σ) : ∀ vs : List Nat, EnvR K H M (wipeD τ vs) (L2.wipe σ vs)
  | [] => er
  | v :: vs => by
    unfold wipeD L2.wipe
    rw [setV_set]
    exact (EnvR.wipe er vs).unset
/-- the turns: p the new list's place, τ the names, acc what is in it -/
def compT (ok : Mp → Prop) (g : DG) (tt : DT) (te : DE) (p : Addr) (τ : Sd) (K : List D → Mp → Prop) : List D → List D → Mp → Prop
  | [], acc, M => ok M ∧ M p = some .priv ∧ K acc M
  | d :: ds, acc, M => ok M ∧ M p = some .priv ∧ g d τ M fun τ2 M2 => tt τ2 M2 (fun b M3 => if b = true then te τ2 M3 (fun y M4 => compT ok g tt te p τ K ds (acc ++ [y]) M4) (fun _ _ _ => False) else compT ok g tt te p τ K ds acc M3) fun _ _ _ => False
def dComp (wi : DI) (g : DG) (tt : DT) (te : DE) (vs : List Nat) : DE := fun τ M Q E => wi τ M (fun ds ok M1 => ∀ p, M1 p = none → compT ok g tt te p (wipeD τ vs) (fun acc M2 => Q (.lst acc) (del M2 p)) ds [] (put M1 p .priv)) E
def dCompM (wi : DI) (g : DG) (tt : DT) (te : DE) (vs : List Nat) : DE := fun τ M Q E => wi τ M (fun ds ok M1 => ∀ p, M1 p = none → compT ok g tt te p (wipeD τ vs) (fun acc M2 => Q (.ref p) (put M2 p (.lst acc))) ds [] (put M1 p .priv)) E
section
variable {wi : DI} {g : DG} {tt : DT} {te : DE} {vs : List Nat}
theorem monoC (mg : MonoG g) (mt : MonoT tt) (me : MonoE te) {ok : Mp → Prop} {p : Addr} {τ : Sd} {K K' : List D → Mp → Prop} (h : ∀ acc M, K acc M → K' acc M) : ∀ (ds acc : List D) (M : Mp), compT ok g tt te p τ K ds acc M → compT ok g tt te p τ K' ds acc M
  | [], acc, M, q => ⟨q.1, q.2.1, h _ _ q.2.2⟩
  | d :: ds, acc, M, q => ⟨q.1, q.2.1, mg d τ M _ _ (fun τ2 M2 => mt τ2 M2 _ _ _ _ (fun b M3 z => by
    cases b with
    | true => exact me τ2 M3 _ _ _ _ (fun y M4 z => monoC mg mt me h ds _ M4 z) (fun _ _ _ z => z) z
    | false => exact monoC mg mt me h ds _ M3 z) fun _ _ _ z => z) q.2.2⟩
theorem mono_comp (mi : MonoI wi) (mg : MonoG g) (mt : MonoT tt) (me : MonoE te) : MonoE (dComp wi g tt te vs) := fun τ M Q Q' E E' h he q =>
  mi τ M _ _ _ _ (fun ds ok M1 z p hp => monoC mg mt me (fun acc M2 => h _ _) ds [] _ (z p hp)) he q
theorem mono_compM (mi : MonoI wi) (mg : MonoG g) (mt : MonoT tt) (me : MonoE te) : MonoE (dCompM wi g tt te vs) := fun τ M Q Q' E E' h he q =>
  mi τ M _ _ _ _ (fun ds ok M1 z p hp => monoC mg mt me (fun acc M2 => h _ _) ds [] _ (z p hp)) he q
/-- the iterable over the hand layer -/
def liftI (C : DC) (t : DI) : TI := fun σ H R => ∃ τ M, EnvR C.X.K H M τ σ ∧ SR C H M ∧ t τ M (fun ds ok M' => ∀ J H', Go C H M H' M' → Feeds C J ds ok H' M' → R J H') (xw C τ)
theorem DPI.pi (h : DPI C tg iter wi) : PI C.X tg iter (liftI C wi) := ⟨fun pins s σ H R I ⟨τ, M, er, sr, q⟩ =>
  thn (h.go pins s σ H τ M _ I er sr q) fun v s1 h1 => thn h1 fun itv s2 ⟨it, fp, tn, J, H', ds, ok, M', e, I2, T, st, f, g, fe, q'⟩ => ⟨it, fp, tn, J, H', e, I2, T, st, f, q' J H' g fe⟩⟩
def liftG (K : PySem.W.Frag) (T : List (Addr × Str)) (vs : List Nat) (g : DG) : TG := fun x σ H R => ∃ d τ M, EnvR K H M τ σ ∧ Abs K H M ∧ LamX.Tabs T H ∧ Den K H M d x ∧ g d τ M fun τ' M' => ∀ σ' H', wipe σ' vs = wipe σ vs → GoK K T H M H' M' → EnvR K H' M' τ' σ' → R σ' H'
def liftBT (K : PySem.W.Frag) (T : List (Addr × Str)) (t : DT) : TT := fun σ H R => ∃ τ M, EnvR K H M τ σ ∧ Abs K H M ∧ LamX.Tabs T H ∧ t τ M (fun b M' => ∀ H', GoK K T H M H' M' → R b H') fun _ _ _ => False
def liftBE (K : PySem.W.Frag) (T : List (Addr × Str)) (t : DE) : TE := fun σ H R => ∃ τ M, EnvR K H M τ σ ∧ Abs K H M ∧ LamX.Tabs T H ∧ t τ M (fun d M' => ∀ v H', GoK K T H M H' M' → Den K H' M' d v → R v H') fun _ _ _ => False
section
variable {s : Shared} {H0 : Hp} {scope : Scope} {cenv : Env} {fp : List Addr}
theorem DPW.pg (h : DPW (blk C s H0 scope cenv fp) tg vs g) : PG (C.X.blk s H0 scope cenv fp) tg (liftG C.X.K C.T vs g) := ⟨fun pins s1 σ H x u R I r ⟨d, τ, M, er, ab, tb, dn, q⟩ =>
  thn (h.go pins s1 σ H τ M d x u _ I er (blk_sr ab tb) r dn q) fun _ s' ⟨σ', H', τ', M', I', e, er', g, q'⟩ => ⟨σ', H', I', q' σ' H' e g er'⟩⟩
theorem DPTs.pts (h : DPTs (blk C s H0 scope cenv fp) ifs tt) : PTs (C.X.blk s H0 scope cenv fp) ifs (liftBT C.X.K C.T tt) := ⟨fun pins s1 σ H R I ⟨τ, M, er, ab, tb, q⟩ =>
  thn (h.go pins s1 σ H τ M _ I er (blk_sr ab tb) q) fun b s' ⟨H', M', I', g, q'⟩ => ⟨H', I', q' H' g⟩⟩
theorem DPE.pb (h : DPE (blk C s H0 scope cenv fp) elt te) : PE (C.X.blk s H0 scope cenv fp) elt (liftBE C.X.K C.T te) := ⟨fun pins s1 σ H R I ⟨τ, M, er, ab, tb, q⟩ =>
  thn (h.go pins s1 σ H τ M _ I er (blk_sr ab tb) q) fun u s' ⟨v, H', d, M', I', r, g, dn, q'⟩ => ⟨v, H', I', r, q' v H' g dn⟩⟩
end
/-- a list under construction grows -/
theorem grow {H : Hp} {M : Mp} {p : Addr} {xs ys : List V} (ab : Abs C.X.K H M) (tb : LamX.Tabs C.T H) (hp : M p = some .priv) (hH : H p = some (.lst xs)) :
    KeepR H M (upd H p (.lst ys)) M ∧ Abs C.X.K (upd H p (.lst ys)) M ∧ LamX.Tabs C.T (upd H p (.lst ys)) := by
  have k : KeepR H M (upd H p (.lst ys)) M := fun a u e n nt => ⟨n, by rw [upd_ne (fun z => by rw [z, hp] at n; cases n)]; exact e⟩
  refine ⟨k, fun a o e => ?_, TabsUpd tb (.inr ⟨_, hH⟩) fun _ z => nomatch z⟩
  by_cases ha : a = p
  · subst ha
    rw [hp] at e; cases e
    exact ⟨ys, upd_same⟩
  · exact (ab a o e).keepR k (upd_ne ha)
theorem compT_priv {ok : Mp → Prop} {p : Addr} {τ : Sd} {K : List D → Mp → Prop} {ds acc : List D} {M : Mp} (q : compT ok g tt te p τ K ds acc M) : M p = some .priv := by
  cases ds with
  | nil => exact q.2.1
  | cons => exact q.2.1
theorem Keep.upd_new {H H' : Hp} {M M' : Mp} {p : Addr} {o : HO} (k : Keep H M H' M') (hp : H p = none) : Keep H M (upd H' p o) M' := fun a u e n => by
  rw [upd_ne (ne_of_none e hp)]
  exact k a u e n
theorem wipe_wipe (σ : L2.St) (vs : List Nat) : L2.wipe (L2.wipe σ vs) vs = L2.wipe σ vs := by
  have : ∀ us : List Nat, (∀ i ∈ us, i ∈ vs) → L2.wipe (L2.wipe σ us) vs = L2.wipe σ vs := by
    intro us
    induction us with
    | nil => intro _; rfl
    | cons u us ih =>
      intro h
      show L2.wipe ((L2.wipe σ us).set u none) vs = _
      rw [wipe_set (h u List.mem_cons_self)]
      exact ih fun i hi => h i (List.mem_cons_of_mem _ hi)
  exact this vs fun _ h => h
/-- what a comprehension's turns ask, over the hand layer -/
theorem comp_lc (mg : MonoG g) (mt : MonoT tt) (me : MonoE te) {K : List D → Mp → Prop} {Q : VK} {σ : L2.St} {H1 : Hp} {τ : Sd} {M1 : Mp} {J : It} {ds : List D} {ok : Mp → Prop} (sr : SR C H1 M1) (er : EnvR C.X.K H1 M1 τ σ) (fe : Feeds C J ds ok H1 M1) (p : Addr) (hp : H1 p = none)
    (q : compT ok g tt te p (wipeD τ vs) K ds [] (put M1 p .priv))
    (hK : ∀ acc M2 H2 ws, K acc M2 → M2 p = some .priv → Go C H1 M1 H2 M2 → H2 p = some (.lst ws) → DenL C.X.K H2 M2 acc ws → acc.length ≤ sizeLine → Q (.ref p) H2) :
    ∃ W : Nat → Nat → Hp → Prop, (∃ m, W 0 m (upd H1 p (.lst []))) ∧ ∀ i m H, W i m H →
      (J.stop i H ∧ Q (.ref p) H) ∨ (J.go i H ∧ ∃ Nx : Hp → Prop, (∀ H', Nx H' → ∃ m', m' < m ∧ W (i + 1) m' H') ∧ ∀ x H', J.yld i H x H' → liftG C.X.K C.T vs g x (L2.wipe σ vs) H' fun σ2 H2 => L2.wipe σ2 vs = L2.wipe σ vs ∧ liftBT C.X.K C.T tt σ2 H2 fun b H3 =>
        if b = true then liftBE C.X.K C.T te σ2 H3 fun y H4 => ∃ acc, H4 p = some (.lst acc) ∧ acc.length < sizeLine ∧ Nx (upd H4 p (.lst (acc ++ [y]))) else Nx H3) := by
  have start : Go C H1 M1 (upd H1 p (.lst [])) (put M1 p .priv) := ⟨Keep.mut sr.abs hp, sr.abs.privs hp, TabsUpd sr.tab (.inl hp) fun _ z => nomatch z⟩
  refine ⟨fun i m H => m = ds.length - i ∧ i ≤ ds.length ∧ ∃ M acc ws, Go C H1 M1 H M ∧ H p = some (.lst ws) ∧ DenL C.X.K H M acc ws ∧ acc.length ≤ i ∧ compT ok g tt te p (wipeD τ vs) K (ds.drop i) acc M,
    ⟨ds.length, rfl, Nat.zero_le _, put M1 p .priv, [], [], start, upd_same, DenL.nil, Nat.le_refl _, q⟩, ?_⟩
  rintro i m H ⟨rfl, hi, M, acc, ws, g1, hH, l, hacc, w⟩
  by_cases hlt : i < ds.length
  · rw [List.drop_eq_getElem_cons hlt] at w
    obtain ⟨hok, hM, w⟩ := w
    obtain ⟨go, yl⟩ := fe.step i H M ds[i] g1 hok (by simp [hlt])
    refine .inr ⟨go, fun H' => ∃ M acc ws, Go C H1 M1 H' M ∧ H' p = some (.lst ws) ∧ DenL C.X.K H' M acc ws ∧ acc.length ≤ i + 1 ∧ compT ok g tt te p (wipeD τ vs) K (ds.drop (i + 1)) acc M, fun H' h => ⟨ds.length - (i + 1), by omega, rfl, hlt, h⟩, fun x H' y => ?_⟩
    obtain ⟨g2, dn⟩ := yl x H' y
    have g12 := g1.trans g2
    refine ⟨ds[i], wipeD τ vs, M, (er.keep g12.keep).wipe vs, g2.abs, g2.tab, dn, ?_⟩
    refine mg _ _ M _ _ (fun τ2 M2 z σ2 H2 e2 g3 er2 => ⟨by rw [e2, wipe_wipe], τ2, M2, er2, g3.abs, g3.tab, ?_⟩) w
    refine mt τ2 M2 _ _ _ _ (fun b M3 z H3 g4 => ?_) (fun _ _ _ z => z) z
    have g34 := (g2.trans g3).trans g4
    cases b with
    | false =>
      have hp3 := (g34.keep p _ hH (.inr hM)).2.elim id fun ⟨_, _, z, _⟩ => nomatch z
      exact ⟨M3, acc, ws, g1.trans g34, hp3, l.keep g34.keep, by omega, z⟩
    | true =>
      refine ⟨τ2, M3, er2.keep g4.keep, g4.abs, g4.tab, me τ2 M3 _ _ _ _ (fun y M4 z v H4 g5 dv => ?_) (fun _ _ _ z => z) z⟩
      have g35 := g34.trans g5
      have hp4 := (g35.keep p _ hH (.inr hM)).2.elim id fun ⟨_, _, z, _⟩ => nomatch z
      have hl := l.length
      have hz := fe.size
      obtain ⟨k, ab, tb⟩ := grow (ys := ws ++ [v]) g35.abs g35.tab (compT_priv z) hp4
      refine ⟨ws, hp4, by omega, M4, acc ++ [y], ws ++ [v], ⟨(g1.trans g35).keep.upd_new hp, ab, tb⟩, upd_same, DenL.keepR k _ ((l.keep g35.keep).append (.cons dv .nil)), by simp; omega, z⟩
  · have e : i = ds.length := by omega
    subst e
    rw [List.drop_length] at w
    obtain ⟨hok, hpv, k⟩ := w
    exact .inl ⟨fe.stop _ H M g1 hok (Nat.le_refl _), hK acc M H ws k hpv g1 hH l (Nat.le_trans hacc fe.size)⟩
theorem de_comp {scope : Scope} {own : List (Str × Nat)} (hc : C.X.calm = true) (hi : DPI C tg iter wi) (ok : BlkOk C.X.N C.X.env.scope scope own)
    (hg : ∀ (s : Shared) (H : Hp) (A : Addr) (cl : List (Str × Addr)) (fp : List Addr), DPW (blk C s H scope (compEnvC scope cl A C.X.env) fp) tg (own.map (·.2)) g)
    (ht : ∀ (s : Shared) (H : Hp) (A : Addr) (cl : List (Str × Addr)) (fp : List Addr), DPTs (blk C s H scope (compEnvC scope cl A C.X.env) fp) ifs tt)
    (he : ∀ (s : Shared) (H : Hp) (A : Addr) (cl : List (Str × Addr)) (fp : List Addr), DPE (blk C s H scope (compEnvC scope cl A C.X.env) fp) elt te) (hs : ∀ x, foldedSetIterable iter C.X.env x = pure x := by intro _; rfl) :
    DPE C (.ListComp elt [⟨tg, iter, ifs, 0⟩] scope pos) (dComp wi g tt te (own.map (·.2))) := by
  have mg := (hg C.X.s_0 C.X.H_0 0 [] []).mono
  have mt := (ht C.X.s_0 C.X.H_0 0 [] []).mono
  have me := (he C.X.s_0 C.X.H_0 0 [] []).mono
  refine .of (mono_comp hi.mono mg mt me) (pe_lc hc C.nd hi.pi ok (fun s H A cl fp => (hg s H A cl fp).pg) (fun s H A cl fp => (ht s H A cl fp).pts) (fun s H A cl fp => (he s H A cl fp).pb) hs) fun σ H Q ⟨τ, M, er, sr, q⟩ => ?_
  refine ⟨τ, M, er, sr, hi.mono _ _ _ _ _ _ (fun ds oks M' z J H' g1 fe p hp => ?_) (fun _ _ _ z => z) q⟩
  refine comp_lc mg mt me (sr.go g1) (er.keep g1.keep) fe p hp (z p (g1.abs.free hp)) fun acc M2 H2 ws k hM g2 hH l hz => ?_
  have g3 : Go C H' M' H2 (del M2 p) := ⟨g2.keep.trans Keep.fix, g2.abs.fix, g2.tab⟩
  refine k _ _ (g1.trans g3) ?_
  simp only [Den]
  exact ⟨p, ws, rfl, ⟨del_same, hH⟩, l.keep Keep.fix⟩
theorem de_compM {scope : Scope} {own : List (Str × Nat)} (hc : C.X.calm = true) (hi : DPI C tg iter wi) (ok : BlkOk C.X.N C.X.env.scope scope own)
    (hg : ∀ (s : Shared) (H : Hp) (A : Addr) (cl : List (Str × Addr)) (fp : List Addr), DPW (blk C s H scope (compEnvC scope cl A C.X.env) fp) tg (own.map (·.2)) g)
    (ht : ∀ (s : Shared) (H : Hp) (A : Addr) (cl : List (Str × Addr)) (fp : List Addr), DPTs (blk C s H scope (compEnvC scope cl A C.X.env) fp) ifs tt)
    (he : ∀ (s : Shared) (H : Hp) (A : Addr) (cl : List (Str × Addr)) (fp : List Addr), DPE (blk C s H scope (compEnvC scope cl A C.X.env) fp) elt te) (hs : ∀ x, foldedSetIterable iter C.X.env x = pure x := by intro _; rfl) :
    DPE C (.ListComp elt [⟨tg, iter, ifs, 0⟩] scope pos) (dCompM wi g tt te (own.map (·.2))) := by
  have mg := (hg C.X.s_0 C.X.H_0 0 [] []).mono
  have mt := (ht C.X.s_0 C.X.H_0 0 [] []).mono
  have me := (he C.X.s_0 C.X.H_0 0 [] []).mono
  refine .of (mono_compM hi.mono mg mt me) (pe_lc hc C.nd hi.pi ok (fun s H A cl fp => (hg s H A cl fp).pg) (fun s H A cl fp => (ht s H A cl fp).pts) (fun s H A cl fp => (he s H A cl fp).pb) hs) fun σ H Q ⟨τ, M, er, sr, q⟩ => ?_
  refine ⟨τ, M, er, sr, hi.mono _ _ _ _ _ _ (fun ds oks M' z J H' g1 fe p hp => ?_) (fun _ _ _ z => z) q⟩
  refine comp_lc mg mt me (sr.go g1) (er.keep g1.keep) fe p hp (z p (g1.abs.free hp)) fun acc M2 H2 ws k hM g2 hH l hz => ?_
  have kp : KeepR H2 M2 H2 (put M2 p (.lst acc)) := fun a u e n _ => ⟨by rw [put_ne (fun z => by rw [z, hM] at n; cases n)]; exact n, e⟩
  have g3 : Go C H' M' H2 (put M2 p (.lst acc)) := by
    refine ⟨fun a u e n => ?_, fun a o e => ?_, g2.tab⟩
    · have := g2.keep a u e n
      rw [put_ne (ne_of_none e hp)]
      exact this
    · by_cases ha : a = p
      · subst ha
        rw [put_same] at e; cases e
        exact ⟨ws, hH, DenL.keepR kp _ l⟩
      · rw [put_ne ha] at e
        exact (g2.abs a o e).keepR kp rfl
  refine k _ _ (g1.trans g3) ?_
  simp only [Den]
/-- y = [..] on one line: the comprehension stores in its own block -/
def sComp (wi : DI) (g : DG) (tt : DT) (te : DE) (vs : List Nat) (i : Nat) : DS := sAsg (dComp wi g tt te vs) (gVar i)
theorem ds_comp {scope : Scope} {own : List (Str × Nat)} {i : Nat} {y : Str} {py spos : Pos} (hc : C.X.calm = true) (hy : C.X.N[i]? = some y) (hyl : C.X.env.scope.names.lookup y = some .local)
    (hsw : swapsWith (.ListComp elt [⟨tg, iter, ifs, 0⟩] scope pos) (some (.Name y py)) spos.line C.X.env = pure true) (hi : DPI C tg iter wi) (ok : BlkOk C.X.N C.X.env.scope scope own)
    (hg : ∀ (s : Shared) (H : Hp) (A : Addr) (cl : List (Str × Addr)) (fp : List Addr), DPW (blk C s H scope (compEnvC scope cl A C.X.env) fp) tg (own.map (·.2)) g)
    (ht : ∀ (s : Shared) (H : Hp) (A : Addr) (cl : List (Str × Addr)) (fp : List Addr), DPTs (blk C s H scope (compEnvC scope cl A C.X.env) fp) ifs tt)
    (he : ∀ (s : Shared) (H : Hp) (A : Addr) (cl : List (Str × Addr)) (fp : List Addr), DPE (blk C s H scope (compEnvC scope cl A C.X.env) fp) elt te) (hs : ∀ x, foldedSetIterable iter C.X.env x = pure x := by intro _; rfl) :
    DPS C (.Assign [.Name y py] (.ListComp elt [⟨tg, iter, ifs, 0⟩] scope pos) spos) (sAsg (dComp wi g tt te (own.map (·.2))) (gVar i)) := by
  have mg := (hg C.X.s_0 C.X.H_0 0 [] []).mono
  have mt := (ht C.X.s_0 C.X.H_0 0 [] []).mono
  have me := (he C.X.s_0 C.X.H_0 0 [] []).mono
  refine .of (monoS_asg (mono_comp hi.mono mg mt me) monoG_var) (ps_setLc hc C.nd hy hyl hsw hi.pi ok (fun s H A cl fp => (hg s H A cl fp).pg) (fun s H A cl fp => (ht s H A cl fp).pts) (fun s H A cl fp => (he s H A cl fp).pb) hs) fun H M τ σ D er sr q => ?_
  refine ⟨τ, M, er, sr, hi.mono _ _ _ _ _ _ (fun ds oks M' z J H' g1 fe p hp => ?_) (fun _ _ _ z => z) q⟩
  refine comp_lc (Q := fun x H1 => L2.gName i x σ H1 (endsOf C H M D).nx) mg mt me (sr.go g1) (er.keep g1.keep) fe p hp (z p (g1.abs.free hp)) fun acc M2 H2 ws k hM g2 hH l hz => ?_
  have g3 : Go C H' M' H2 (del M2 p) := ⟨g2.keep.trans Keep.fix, g2.abs.fix, g2.tab⟩
  refine ⟨_, del M2 p, ?_, g1.trans g3, k⟩
  rw [setV_set]
  refine EnvR.set ((er.keep g1.keep).keep g3.keep) ?_
  simp only [Den]
  exact ⟨p, ws, rfl, ⟨del_same, hH⟩, l.keep Keep.fix⟩
end
end
end DL

/-! Built-in operations over data. -/
namespace DL
open PySem PySem.Spec PyProof.Rows L2
section
variable {C : DC} {e a b : Expr} {es : List Expr} {x : Str} {p pos : Pos} {ta tb te : DE} {t : DA} {id : String}

/-! ### calls of built-in functions and types -/
abbrev OL := List D → Mp → Option D
def DCl (C : DC) (f : Value) (g : OL) : Prop :=
  ∀ (pins : List (Addr × Obj)) (s : Shared) (σ : L2.St) (H : Hp) (M : Mp) (xs : List V) (us : List Value) (ds : List D) (z : D), Inv C.X pins σ H s → SR C H M → Vals xs us → DenL C.X.K H M ds xs → g ds M = some z →
    wpAny (model C.X.prog C.X.w) C.X.A (call f us) (EPD C pins σ H M fun z' M' => z' = z ∧ M' = M) C.X.xe s
theorem DCl.of {f : Value} {r : List V → Hp → VK → Prop} {g : OL} (h : CallR C.X f r)
    (hi : ∀ (pins : List (Addr × Obj)) (s : Shared) (σ : L2.St) (H : Hp) (M : Mp) (xs : List V) (ds : List D) (z : D) (Q : VK), Inv C.X pins σ H s → SR C H M → DenL C.X.K H M ds xs → g ds M = some z → (∀ v H', Go C H M H' M → Den C.X.K H' M z v → Q v H') → r xs H Q) : DCl C f g :=
  fun pins s σ H M xs us ds z I sr rv l ez =>
    thn (h pins s σ H xs us (fun w H' => Go C H M H' M ∧ Den C.X.K H' M z w) I rv (hi pins s σ H M xs ds z _ I sr l ez fun v H' g dn => ⟨g, dn⟩)) fun w s' ⟨wv, H', I', rw, g, dn⟩ => ⟨wv, H', z, M, I', rw, g, dn, rfl, rfl⟩
def dFn (g : OL) (t : DA) : DE := fun τ M Q E => t τ M (fun ds M1 => ok1 (g ds M1) fun z => Q z M1) E
theorem mono_fn {g : OL} (m : MonoA t) : MonoE (dFn g t) := fun τ M Q Q' E E' h he q => m τ M _ _ _ _ (fun ds M1 => ok1_mono fun z => h z M1) he q
theorem fn_run {f : Value} {g : OL} (h : DCl C f g) {pins : List (Addr × Obj)} {s : Shared} {σ : L2.St} {H H0 : Hp} {M M0 : Mp} {xs : List V} {us : List Value} {ds : List D} {Q : DK} (I : Inv C.X pins σ H s) (sr : SR C H M) (g0 : Go C H0 M0 H M) (r : Vals xs us) (l : DenL C.X.K H M ds xs) (q : ok1 (g ds M) fun z => Q z M) :
    wpAny (model C.X.prog C.X.w) C.X.A (call f us) (EPD C pins σ H0 M0 Q) C.X.xe s := by
  obtain ⟨z, ez, q⟩ := ok1_ex q
  refine thn (h pins s σ H M xs us ds z I sr r l ez) fun w s' ⟨wv, H', z', M', I', rw, g1, dn, e1, e2⟩ => ?_
  subst e1; subst e2
  exact ⟨wv, H', z', _, I', rw, g0.trans g1, dn, q⟩
theorem de_callB {g : OL} (hc : DCl C (.builtin id) g) (hg : Gl C.X x) (hm : C.X.mg x = none) (hv : bootBuiltins x = some (.builtin id)) (ha : DPA C (e :: es) t) (hn : x ≠ "__name__" := by decide) (hdb : (x == ("__debug__" : Str)) = false := by decide)
    (he : starEach (e :: es) C.X.env = (false, eval e C.X.env) :: starEach es C.X.env := by rfl) (hpl : (backTo pos (starEach es C.X.env)).any (·.1) = false := by rfl) : DPE C (.Call (.Name x p) (e :: es) [] pos) (dFn g t) := ⟨mono_fn ha.mono, fun pins s σ H τ M Q I er sr q => by
  refine wpAny_Call_Name_kw (ld_blt I hg hm hv ?_ hn hdb)
  exact PyProof.Rows.callWith_builtin1 (thn (ha.go pos pins s σ H τ M _ I er sr q) fun us s1 ⟨vs, H1, ds, M1, I1, r1, g1, l1, q1⟩ => fn_run hc I1 (sr.go g1) g1 r1 l1 q1) he hpl⟩
theorem de_callT {T : String} {g : OL} (hc : DCl C (.type T) g) (hg : Gl C.X x) (hm : C.X.mg x = none) (hv : bootBuiltins x = some (.type T)) (ha : DPA C (e :: es) t) (hn : x ≠ "__name__" := by decide) (hdb : (x == ("__debug__" : Str)) = false := by decide)
    (he : starEach (e :: es) C.X.env = (false, eval e C.X.env) :: starEach es C.X.env := by rfl) (hpl : (backTo pos (starEach es C.X.env)).any (·.1) = false := by rfl) : DPE C (.Call (.Name x p) (e :: es) [] pos) (dFn g t) := ⟨mono_fn ha.mono, fun pins s σ H τ M Q I er sr q => by
  refine wpAny_Call_Name_kw (ld_blt I hg hm hv ?_ hn hdb)
  exact PyProof.Rows.callWith_type1 (thn (ha.go pos pins s σ H τ M _ I er sr q) fun us s1 ⟨vs, H1, ds, M1, I1, r1, g1, l1, q1⟩ => fn_run hc I1 (sr.go g1) g1 r1 l1 q1) he hpl⟩

/-! ### sequences by values -/
theorem seq_v {pins : List (Addr × Obj)} {s : Shared} {σ : L2.St} {H : Hp} {M : Mp} {d : D} {xs : List D} {v : V} (I : Inv C.X pins σ H s) (sr : SR C H M) (dn : Den C.X.K H M d v) (e : items M d = some xs) :
    ∃ q vs, v = .ref q ∧ DenL C.X.K H M xs vs ∧ vs.length = xs.length ∧ xs.length ≤ sizeLine ∧ ((SqT C.X.K H q vs ∧ ∃ zs, d = .tup zs) ∨ (SqL C.X.K H q vs ∧ ∀ zs, d ≠ .tup zs)) := by
  obtain ⟨q, vs, rfl, l, h⟩ := seq_of sr.abs dn e
  have hl := l.length
  rcases h with ⟨z, h, _⟩ | ⟨z, h, _⟩
  · obtain ⟨_, _, _, hz⟩ := I.tuple h
    exact ⟨q, vs, rfl, l, hl, by omega, .inl ⟨h, z⟩⟩
  · obtain ⟨_, _, _, hz⟩ := I.list h
    exact ⟨q, vs, rfl, l, hl, by omega, .inr ⟨h, z⟩⟩
def gLen : OL := fun ds M => match ds with
  | [.str z] => if z.length ≤ sizeLine then some (.int z.length) else none
  | [x] => (items M x).map fun xs => .int xs.length
  | _ => none
theorem cl_len : DCl C (.builtin "len") gLen := fun pins s σ H M xs us ds z I sr rv l ez => by
  unfold gLen at ez
  split at ez
  · split at ez <;> try cases ez
    rename_i z hz
    obtain ⟨v, rfl, dn⟩ := l.one
    simp only [Den] at dn
    subst dn
    exact thn (call_len_str pins s σ H _ us (fun w H' => w = .int z.length ∧ H' = H) I rv ⟨z, rfl, hz, rfl, rfl⟩) fun w s' ⟨wv, H', I', rw, e1, e2⟩ => by
      subst e1; subst e2
      exact ⟨_, _, .int z.length, M, I', rw, Go.refl sr, by simp only [Den], rfl, rfl⟩
  · rename_i d hd
    cases e : items M d with
    | none => rw [e] at ez; cases ez
    | some ys =>
      rw [e] at ez
      cases ez
      obtain ⟨v, rfl, dn⟩ := l.one
      obtain ⟨q, vs, rfl, l, hl, hz, h⟩ := seq_v I sr dn e
      exact thn (call_len_seq pins s σ H _ us (fun w H' => w = .int ys.length ∧ H' = H) I rv ⟨q, vs, rfl, h.elim (fun h => .inr h.1) (fun h => .inl h.1), by rw [hl], rfl⟩) fun w s' ⟨wv, H', I', rw, e1, e2⟩ => by
        subst e1; subst e2
        exact ⟨_, _, .int ys.length, M, I', rw, Go.refl sr, by simp only [Den], rfl, rfl⟩
  · cases ez
/-- flags -/
def flags : List D → Option (List Bool)
  | [] => some []
  | .bl b :: r => (flags r).map (b :: ·)
  | _ => none
theorem flags_den {K : PySem.W.Frag} {H : Hp} {M : Mp} : ∀ {ds : List D} {bs : List Bool} {vs : List V}, flags ds = some bs → DenL K H M ds vs → vs = bs.map V.bl
  | [], bs, vs, e, l => by
    simp only [flags, Option.some.injEq] at e; subst e
    simp only [DenL] at l
    exact l
  | d :: ds, bs, vs, e, l => by
    cases d <;> simp only [flags, reduceCtorEq] at e
    rename_i b
    cases q : flags ds with
    | none => rw [q] at e; cases e
    | some cs =>
      rw [q] at e; cases e
      simp only [DenL] at l
      obtain ⟨v, r, rfl, dn, l⟩ := l
      simp only [Den] at dn
      rw [flags_den q l, dn]
      rfl
def nums : List D → Option (List Int)
  | [] => some []
  | .int b :: r => (nums r).map (b :: ·)
  | _ => none
theorem nums_den {K : PySem.W.Frag} {H : Hp} {M : Mp} : ∀ {ds : List D} {bs : List Int} {vs : List V}, nums ds = some bs → DenL K H M ds vs → vs = bs.map V.int
  | [], bs, vs, e, l => by
    simp only [nums, Option.some.injEq] at e; subst e
    simp only [DenL] at l
    exact l
  | d :: ds, bs, vs, e, l => by
    cases d <;> simp only [nums, reduceCtorEq] at e
    rename_i b
    cases q : nums ds with
    | none => rw [q] at e; cases e
    | some cs =>
      rw [q] at e; cases e
      simp only [DenL] at l
      obtain ⟨v, r, rfl, dn, l⟩ := l
      simp only [Den] at dn
      rw [nums_den q l, dn]
      rfl
/-- the items of a list (no tuple) -/
def itemsL (M : Mp) (d : D) : Option (List D) := match d with
  | .tup _ => none
  | d => items M d
theorem itemsL_of {M : Mp} {d : D} {xs : List D} (h : itemsL M d = some xs) : items M d = some xs ∧ ∀ zs, d ≠ .tup zs := by
  cases d <;> first | exact ⟨h, fun _ z => nomatch z⟩ | exact nomatch h
def gAll : OL := fun ds M => match ds with
  | [x] => (itemsL M x).bind fun xs => (flags xs).bind fun bs => some <| .bl (bs.all fun b => b)
  | _ => none
def gAny : OL := fun ds M => match ds with
  | [x] => (itemsL M x).bind fun xs => (flags xs).bind fun bs => some <| .bl (bs.any fun b => b)
  | _ => none
def gSum : OL := fun ds M => match ds with
  | [x] => (itemsL M x).bind fun xs => (nums xs).bind fun bs => some <| .int bs.sum
  | _ => none
def maxI : List Int → Int
  | [] => 0
  | [a] => a
  | a :: r => max a (maxI r)
def minI : List Int → Int
  | [] => 0
  | [a] => a
  | a :: r => min a (minI r)
theorem maxI_spec : ∀ {l : List Int}, l ≠ [] → maxI l ∈ l ∧ ∀ y ∈ l, y ≤ maxI l
  | [], h => absurd rfl h
  | [a], _ => by simp [maxI]
  | a :: b :: r, _ => by
    obtain ⟨h1, h2⟩ := maxI_spec (l := b :: r) (by simp)
    show max a (maxI (b :: r)) ∈ _ ∧ ∀ y ∈ _, y ≤ max a (maxI (b :: r))
    refine ⟨?_, fun y hy => ?_⟩
    · by_cases h : a ≤ maxI (b :: r)
      · rw [Int.max_eq_right h]; exact List.mem_cons_of_mem _ h1
      · rw [Int.max_eq_left (by omega)]; exact List.mem_cons_self
    · rcases List.mem_cons.mp hy with rfl | hy
      · exact Int.le_max_left _ _
      · exact Int.le_trans (h2 y hy) (Int.le_max_right _ _)
theorem minI_spec : ∀ {l : List Int}, l ≠ [] → minI l ∈ l ∧ ∀ y ∈ l, minI l ≤ y
  | [], h => absurd rfl h
  | [a], _ => by simp [minI]
  | a :: b :: r, _ => by
    obtain ⟨h1, h2⟩ := minI_spec (l := b :: r) (by simp)
    show min a (minI (b :: r)) ∈ _ ∧ ∀ y ∈ _, min a (minI (b :: r)) ≤ y
    refine ⟨?_, fun y hy => ?_⟩
    · by_cases h : a ≤ minI (b :: r)
      · rw [Int.min_eq_left h]; exact List.mem_cons_self
      · rw [Int.min_eq_right (by omega)]; exact List.mem_cons_of_mem _ h1
    · rcases List.mem_cons.mp hy with rfl | hy
      · exact Int.min_le_left _ _
      · exact Int.le_trans (Int.min_le_right _ _) (h2 y hy)
def gMax : OL := fun ds M => match ds with
  | [x] => (itemsL M x).bind fun xs => (nums xs).bind fun bs => if bs.isEmpty then none else some (.int (maxI bs))
  | [.int i, .int j] => some (.int (if j > i then j else i))
  | _ => none
def gMin : OL := fun ds M => match ds with
  | [x] => (itemsL M x).bind fun xs => (nums xs).bind fun bs => if bs.isEmpty then none else some (.int (minI bs))
  | [.int i, .int j] => some (.int (if j < i then j else i))
  | _ => none
/-- what a call of one list asks -/
theorem one_list {g : OL} {f : Value} {α : Type} {c : List D → Option α} {r : α → Option D} {rr : List V → Hp → VK → Prop} (hg : ∀ ds M z, g ds M = some z → ∀ d, ds = [d] → (itemsL M d).bind (fun xs => (c xs).bind r) = some z)
    (h : CallR C.X f rr) {m : α → List V} (hc : ∀ {K H M} {xs : List D} {y : α} {vs : List V}, c xs = some y → DenL K H M xs vs → vs = m y)
    (hr : ∀ q y z H (Q : VK), SqL C.X.K H q (m y) → r y = some z → (∀ v, pD z = some v → Q v H) → rr [.ref q] H Q) (hp : ∀ y z, r y = some z → ∃ v, pD z = some v) :
    ∀ (pins : List (Addr × Obj)) (s : Shared) (σ : L2.St) (H : Hp) (M : Mp) (xs : List V) (us : List Value) (d z : D), Inv C.X pins σ H s → SR C H M → Vals xs us → DenL C.X.K H M [d] xs → g [d] M = some z →
    wpAny (model C.X.prog C.X.w) C.X.A (call f us) (EPD C pins σ H M fun z' M' => z' = z ∧ M' = M) C.X.xe s := fun pins s σ H M xs us d z I sr rv l ez => by
  have e := hg _ _ _ ez d rfl
  cases e1 : itemsL M d with
  | none => rw [e1] at e; cases e
  | some ys =>
    rw [e1] at e
    cases e2 : c ys with
    | none => rw [Option.bind_some, e2] at e; cases e
    | some y =>
      rw [Option.bind_some, e2, Option.bind_some] at e
      obtain ⟨v, rfl, dn⟩ := l.one
      obtain ⟨e3, e4⟩ := itemsL_of e1
      obtain ⟨q, vs, rfl, l, hl, hz, h'⟩ := seq_v I sr dn e3
      rcases h' with ⟨_, zs, h'⟩ | ⟨h', _⟩
      · exact absurd h' (e4 zs)
      · rw [hc e2 l] at h'
        obtain ⟨v, hv⟩ := hp y z e
        refine thn (h pins s σ H _ us (fun w H' => w = v ∧ H' = H) I rv (hr q y z H _ h' e fun v' hv' => ?_)) fun w s' ⟨wv, H', I', rw, e1, e2⟩ => ?_
        · rw [hv] at hv'; cases hv'; exact ⟨rfl, rfl⟩
        · subst e1; subst e2
          exact ⟨_, _, z, M, I', rw, Go.refl sr, pD_den hv, rfl, rfl⟩
theorem cl_all (hc : C.X.calm = true) : DCl C (.builtin "all") gAll := fun pins s σ H M xs us ds z I sr rv l ez => by
  match ds, l, ez with
  | [d], l, ez =>
    exact one_list (g := gAll) (c := flags) (r := fun bs => some (.bl (bs.all fun b => b))) (fun ds M z e d hd => by
      subst hd
      exact e) (cr_all hc) (m := fun bs => bs.map V.bl) flags_den
      (fun q y z H Q h e k => ⟨q, y, rfl, h, by cases e; exact k _ rfl⟩) (fun y z e => by cases e; exact ⟨_, rfl⟩) pins s σ H M xs us d z I sr rv l ez
  | [], _, ez => exact nomatch ez
  | _ :: _ :: _, _, ez => exact nomatch ez
theorem cl_any (hc : C.X.calm = true) : DCl C (.builtin "any") gAny := fun pins s σ H M xs us ds z I sr rv l ez => by
  match ds, l, ez with
  | [d], l, ez =>
    exact one_list (g := gAny) (c := flags) (r := fun bs => some (.bl (bs.any fun b => b))) (fun ds M z e d hd => by
      subst hd
      exact e) (cr_any hc) (m := fun bs => bs.map V.bl) flags_den
      (fun q y z H Q h e k => ⟨q, y, rfl, h, by cases e; exact k _ rfl⟩) (fun y z e => by cases e; exact ⟨_, rfl⟩) pins s σ H M xs us d z I sr rv l ez
  | [], _, ez => exact nomatch ez
  | _ :: _ :: _, _, ez => exact nomatch ez
theorem cl_sum (hc : C.X.calm = true) : DCl C (.builtin "sum") gSum := fun pins s σ H M xs us ds z I sr rv l ez => by
  match ds, l, ez with
  | [d], l, ez =>
    exact one_list (g := gSum) (c := nums) (r := fun bs => some (.int bs.sum)) (fun ds M z e d hd => by
      subst hd
      exact e) (cr_sum hc) (m := fun bs => bs.map V.int) nums_den
      (fun q y z H Q h e k => ⟨q, y, rfl, h, by cases e; exact k _ rfl⟩) (fun y z e => by cases e; exact ⟨_, rfl⟩) pins s σ H M xs us d z I sr rv l ez
  | [], _, ez => exact nomatch ez
  | _ :: _ :: _, _, ez => exact nomatch ez
theorem cl_max (hc : C.X.calm = true) : DCl C (.builtin "max") gMax := fun pins s σ H M xs us ds z I sr rv l ez => by
  match ds, l, ez with
  | [d], l, ez =>
    refine one_list (g := gMax) (c := nums) (r := fun bs => if bs.isEmpty then none else some (.int (maxI bs))) (fun ds M z e d hd => by
      subst hd
      exact e) (cr_max hc) (m := fun bs => bs.map V.int) nums_den
      (fun q y z H Q h e k => ?_) (fun y z e => ?_) pins s σ H M xs us d z I sr rv l ez
    · cases y with
      | nil => cases e
      | cons n ns =>
        simp only [List.isEmpty_cons, Bool.false_eq_true, if_false, Option.some.injEq] at e
        subst e
        refine ⟨q, _, rfl, h, by simp, fun m hm hle => ?_⟩
        obtain ⟨h1, h2⟩ := maxI_spec (l := n :: ns) (by simp)
        have e : m = maxI (n :: ns) := by
          have a := hle _ h1
          have b := h2 m hm
          omega
        rw [e]
        exact k _ rfl
    · cases y with
      | nil => cases e
      | cons n ns =>
        simp only [List.isEmpty_cons, Bool.false_eq_true, if_false, Option.some.injEq] at e
        subst e
        exact ⟨_, rfl⟩
  | [], _, ez => exact nomatch ez
  | [x, y], l, ez =>
    obtain ⟨v, w, rfl, d1, d2⟩ := l.two
    cases x <;> cases y <;> first | (cases ez; done) | skip
    rename_i i j
    simp only [Den] at d1 d2
    subst d1; subst d2
    cases ez
    exact thn (call_max2 hc pins s σ H _ us (fun w H' => w = .int (if j > i then j else i) ∧ H' = H) I rv ⟨i, j, rfl, rfl, rfl⟩) fun w s' ⟨wv, H', I', rw, e1, e2⟩ => by
      subst e1; subst e2
      exact ⟨_, _, .int (if j > i then j else i), M, I', rw, Go.refl sr, by simp only [Den], rfl, rfl⟩
  | _ :: _ :: _ :: _, _, ez => simp [gMax] at ez
theorem cl_min (hc : C.X.calm = true) : DCl C (.builtin "min") gMin := fun pins s σ H M xs us ds z I sr rv l ez => by
  match ds, l, ez with
  | [d], l, ez =>
    refine one_list (g := gMin) (c := nums) (r := fun bs => if bs.isEmpty then none else some (.int (minI bs))) (fun ds M z e d hd => by
      subst hd
      exact e) (cr_min hc) (m := fun bs => bs.map V.int) nums_den
      (fun q y z H Q h e k => ?_) (fun y z e => ?_) pins s σ H M xs us d z I sr rv l ez
    · cases y with
      | nil => cases e
      | cons n ns =>
        simp only [List.isEmpty_cons, Bool.false_eq_true, if_false, Option.some.injEq] at e
        subst e
        refine ⟨q, _, rfl, h, by simp, fun m hm hle => ?_⟩
        obtain ⟨h1, h2⟩ := minI_spec (l := n :: ns) (by simp)
        have e : m = minI (n :: ns) := by
          have a := hle _ h1
          have b := h2 m hm
          omega
        rw [e]
        exact k _ rfl
    · cases y with
      | nil => cases e
      | cons n ns =>
        simp only [List.isEmpty_cons, Bool.false_eq_true, if_false, Option.some.injEq] at e
        subst e
        exact ⟨_, rfl⟩
  | [], _, ez => exact nomatch ez
  | [x, y], l, ez =>
    obtain ⟨v, w, rfl, d1, d2⟩ := l.two
    cases x <;> cases y <;> first | (cases ez; done) | skip
    rename_i i j
    simp only [Den] at d1 d2
    subst d1; subst d2
    cases ez
    exact thn (call_min2 hc pins s σ H _ us (fun w H' => w = .int (if j < i then j else i) ∧ H' = H) I rv ⟨i, j, rfl, rfl, rfl⟩) fun w s' ⟨wv, H', I', rw, e1, e2⟩ => by
      subst e1; subst e2
      exact ⟨_, _, .int (if j < i then j else i), M, I', rw, Go.refl sr, by simp only [Den], rfl, rfl⟩
  | _ :: _ :: _ :: _, _, ez => simp [gMin] at ez
def gAbs : OL := fun ds _ => match ds with
  | [.int i] => some (.int (if i < 0 then -i else i))
  | _ => none
/-- a rule that asks scalars and gives one -/
theorem cl_sc {f : Value} {r : List V → Hp → VK → Prop} {g : OL} (h : CallR C.X f r) (hr : ∀ (H : Hp) (M : Mp) (xs : List V) (ds : List D) (z : D) (Q : VK), DenL C.X.K H M ds xs → g ds M = some z → (∀ v, pD z = some v → Q v H) → r xs H Q) (hp : ∀ ds M z, g ds M = some z → ∃ v, pD z = some v) : DCl C f g :=
  .of h fun pins s σ H M xs ds z Q I sr l ez k => hr H M xs ds z Q l ez fun v hv => k v H (Go.refl sr) (pD_den hv)
theorem cl_abs : DCl C (.builtin "abs") gAbs := cl_sc call_abs (fun H M xs ds z Q l ez k => by
    unfold gAbs at ez
    split at ez <;> try cases ez
    obtain ⟨v, rfl, dn⟩ := l.one
    simp only [Den] at dn
    subst dn
    exact ⟨_, rfl, k _ rfl⟩) fun ds M z ez => by
  unfold gAbs at ez
  split at ez <;> cases ez
  exact ⟨_, rfl⟩
def gInt : OL := fun ds _ => match ds with
  | [.int i] => some (.int i)
  | [.bl b] => some (.int (if b then 1 else 0))
  | _ => none
theorem cl_int : DCl C (.type "int") gInt := cl_sc call_int1 (fun H M xs ds z Q l ez k => by
    unfold gInt at ez
    split at ez <;> try cases ez
    · obtain ⟨v, rfl, dn⟩ := l.one
      simp only [Den] at dn
      subst dn
      exact .inl ⟨_, rfl, k _ rfl⟩
    · obtain ⟨v, rfl, dn⟩ := l.one
      simp only [Den] at dn
      subst dn
      exact .inr ⟨_, rfl, k _ rfl⟩) fun ds M z ez => by
  unfold gInt at ez
  split at ez <;> cases ez
  · exact ⟨_, rfl⟩
  · exact ⟨_, rfl⟩
/-- tuple(xs), list(xs) -/
def gTuple : OL := fun ds M => match ds with
  | [x] => (items M x).map fun xs => .tup xs
  | _ => none
def gList : OL := fun ds M => match ds with
  | [x] => (items M x).map fun xs => .lst xs
  | _ => none
theorem cl_tuple : DCl C (.type "tuple") gTuple := .of call_tuple_of fun pins s σ H M xs ds z Q I sr l ez k => by
  unfold gTuple at ez
  split at ez <;> try cases ez
  rename_i d
  cases e : items M d with
  | none => rw [e] at ez; cases ez
  | some ys =>
    rw [e] at ez
    cases ez
    obtain ⟨v, rfl, dn⟩ := l.one
    have dn0 := dn
    obtain ⟨q, vs, rfl, l, hl, hz, h⟩ := seq_v I sr dn e
    rcases h with ⟨h, zs, rfl⟩ | ⟨h, _⟩
    · refine ⟨q, vs, rfl, .inr ⟨h, k _ _ (Go.refl sr) ?_⟩⟩
      cases e
      exact dn0
    · refine ⟨q, vs, rfl, .inl ⟨h, fun p hp => ?_⟩⟩
      obtain ⟨g, dn⟩ := new_tup sr hp l
      exact k _ _ g dn
theorem cl_list : DCl C (.type "list") gList := .of call_list_of fun pins s σ H M xs ds z Q I sr l ez k => by
  unfold gList at ez
  split at ez <;> try cases ez
  rename_i d
  cases e : items M d with
  | none => rw [e] at ez; cases ez
  | some ys =>
    rw [e] at ez
    cases ez
    obtain ⟨v, rfl, dn⟩ := l.one
    obtain ⟨q, vs, rfl, l, hl, hz, h⟩ := seq_v I sr dn e
    refine ⟨q, vs, rfl, h.elim (fun h => .inr h.1) (fun h => .inl h.1), fun p hp => ?_⟩
    obtain ⟨g, dn⟩ := new_lst sr hp l
    exact k _ _ g dn
end
end DL

/-! isinstance, ==, in, +, *, items, parts. -/
namespace DL
open PySem PySem.Spec PyProof.Rows L2

/-! ### isinstance against built-in types -/
def typeN (M : Mp) : D → Option String
  | .non => some "NoneType"
  | .bl _ => some "bool"
  | .int _ => some "int"
  | .str _ => some "str"
  | .tup _ => some "tuple"
  | .lst _ => some "list"
  | .scr _ => some "list"
  | .ref a => match M a with
    | some (.lst _) => some "list"
    | _ => none
  | .ty _ => none
def isiB (t n : String) : Bool := t == n || (t == "bool" && n == "int")
def asked : List String := ["int", "bool", "str", "tuple", "list", "dict"]
def gIsi : OL := fun ds M => match ds with
  | [d, .ty n] => if asked.contains n then (typeN M d).map fun t => .bl (isiB t n) else none
  | _ => none
theorem kit_all : (["NoneType", "bool", "int", "str", "tuple", "list"].all fun t => asked.all fun n => decide (kitB t n = some (isiB t n))) = true := by decide +kernel
theorem kit_of1 {t n : String} (ht : t ∈ ["NoneType", "bool", "int", "str", "tuple", "list"]) (hn : n ∈ asked) : kitB t n = some (isiB t n) := by
  have h := List.all_eq_true.mp kit_all t ht
  exact of_decide_eq_true (List.all_eq_true.mp h n hn)
section
variable {C : DC} {e a b : Expr} {es : List Expr} {x : Str} {p pos : Pos} {ta tb te : DE} {t : DA} {id : String}
theorem typeN_ty {H : Hp} {M : Mp} {d : D} {v : V} {t : String} (sr : SR C H M) (dn : Den C.X.K H M d v) (h : typeN M d = some t) : TyX C.X.K H v (.type t) ∧ t ∈ ["NoneType", "bool", "int", "str", "tuple", "list"] := by
  cases d <;> simp only [typeN, Option.some.injEq, reduceCtorEq] at h <;> simp only [Den] at dn
  case non => subst h; subst dn; exact ⟨.base .non, by simp⟩
  case bl => subst h; subst dn; exact ⟨.base (.bl _), by simp⟩
  case int => subst h; subst dn; exact ⟨.base (.int _), by simp⟩
  case str => subst h; subst dn; exact ⟨.base (.str _), by simp⟩
  case tup =>
    subst h
    obtain ⟨q, vs, rfl, tp, l⟩ := dn
    refine ⟨?_, by simp⟩
    rcases tp with ⟨_, tp | ⟨o, tp⟩⟩ | ⟨o, its, n, k1, k2, _⟩
    · exact .base (.tup tp)
    · exact .fTuple (xs := vs) (o := o) (by
        rw [tp])
    · exact .kTuple k1 k2
  case lst =>
    subst h
    obtain ⟨q, vs, rfl, tp, l⟩ := dn
    exact ⟨.base (.lst tp.2), by simp⟩
  case scr =>
    subst h
    obtain ⟨q, vs, rfl, tp, l⟩ := dn
    refine ⟨?_, by simp⟩
    rcases tp with ⟨_, tp | ⟨o, tp⟩⟩ | ⟨o, its, n, k1, k2, _⟩
    · exact .base (.lst tp)
    · exact .base (.frz tp)
    · exact .kList k1 k2
  case ref q =>
    subst dn
    split at h <;> cases h
    rename_i xs hM
    obtain ⟨vs, hH, _⟩ := sr.abs q _ hM
    exact ⟨.base (.lst hH), by simp⟩
theorem cl_isi : DCl C (.builtin "isinstance") gIsi := .of call_isi fun pins s σ H M xs ds z Q I sr l ez k => by
  unfold gIsi at ez
  split at ez <;> try cases ez
  rename_i d n
  split at ez <;> try cases ez
  rename_i hn
  cases e : typeN M d with
  | none => rw [e] at ez; cases ez
  | some t =>
    rw [e] at ez
    cases ez
    obtain ⟨v, w, rfl, d1, d2⟩ := l.two
    obtain ⟨ty, ht⟩ := typeN_ty sr d1 e
    simp only [Den] at d2
    subst d2
    exact ⟨v, .ty n, .type t, .type n, isiB t n, rfl, .ty n, ty, kit_ty (kit_of1 ht (by simpa using hn)), k _ _ (Go.refl sr) (by simp only [Den])⟩

/-! ### == -/
mutual
def deq : D → D → Bool
  | .non, y => match y with
    | .non => true
    | _ => false
  | .bl a, y => match y with
    | .bl b => a == b
    | .int j => (if a then 1 else 0) == j
    | _ => false
  | .int i, y => match y with
    | .bl b => i == (if b then 1 else 0)
    | .int j => i == j
    | _ => false
  | .str a, y => match y with
    | .str b => a == b
    | _ => false
  | .tup xs, y => match y with
    | .tup ys => deqs xs ys
    | _ => false
  | .lst xs, y => match y with
    | .lst ys => deqs xs ys
    | .scr ys => deqs xs ys
    | _ => false
  | .scr xs, y => match y with
    | .lst ys => deqs xs ys
    | .scr ys => deqs xs ys
    | _ => false
  | .ref _, _ => false
  | .ty _, _ => false
def deqs : List D → List D → Bool
  | [], ys => ys.isEmpty
  | x :: xs, ys => match ys with
    | [] => false
    | y :: ys => deq x y && deqs xs ys
end
/-- plain data, nested at most n deep -/
def shp : Nat → D → Bool
  | _, .non => true
  | _, .bl _ => true
  | _, .int _ => true
  | _, .str s => PyData.strOk s
  | 0, .tup _ => false
  | 0, .lst _ => false
  | 0, .scr _ => false
  | n + 1, .tup xs => xs.all (shp n)
  | n + 1, .lst xs => xs.all (shp n)
  | n + 1, .scr xs => xs.all (shp n)
  | _, .ref _ => false
  | _, .ty _ => false
mutual
def pyT : D → PyData
  | .non => .none
  | .bl b => .bool b
  | .int i => .int i
  | .str s => .str s
  | .tup xs => .tuple (pyTs xs)
  | .lst xs => .list (pyTs xs)
  | .scr xs => .list (pyTs xs)
  | .ref _ => .none
  | .ty _ => .none
def pyTs : List D → List PyData
  | [] => []
  | x :: xs => pyT x :: pyTs xs
end
theorem pyTs_map : ∀ xs : List D, pyTs xs = xs.map pyT
  | [] => by simp only [pyTs, List.map_nil]
  | x :: xs => by simp only [pyTs, List.map_cons, pyTs_map xs]
theorem shp_mono : ∀ {n m : Nat} {d : D}, n ≤ m → shp n d = true → shp m d = true := by
  intro n
  induction n with
  | zero =>
    intro m d h e
    cases d <;> simp only [shp, Bool.false_eq_true] at e <;> (cases m <;> simp only [shp] <;> exact e)
  | succ n ih =>
    intro m d h e
    obtain ⟨m, rfl⟩ : ∃ k, m = k + 1 := ⟨m - 1, by omega⟩
    cases d <;> simp only [shp, Bool.false_eq_true] at e ⊢ <;> try exact e
    all_goals
      exact List.all_eq_true.mpr fun x hx => ih (by omega) (List.all_eq_true.mp e x hx)
theorem canLayAll_of {l : List PyData} (h : ∀ x ∈ l, x.canLay0 = true) : PyData.canLayAll0 l = true := by
  induction l with
  | nil => simp [PyData.canLayAll0]
  | cons x l ih => simp only [PyData.canLayAll0, Bool.and_eq_true]; exact ⟨h x List.mem_cons_self, ih fun y hy => h y (List.mem_cons_of_mem _ hy)⟩
theorem depthAll_of {l : List PyData} {n : Nat} (h : ∀ x ∈ l, x.depth ≤ n) : PyData.depthAll l ≤ n := by
  induction l with
  | nil => simp [PyData.depthAll]
  | cons x l ih =>
    simp only [PyData.depthAll]
    exact Nat.max_le.mpr ⟨h x List.mem_cons_self, ih fun y hy => h y (List.mem_cons_of_mem _ hy)⟩
theorem shp_shaped : ∀ {n : Nat} {d : D}, shp n d = true → (pyT d).canLay0 = true ∧ (pyT d).depth ≤ n := by
  intro n
  induction n with
  | zero =>
    intro d h
    cases d <;> simp only [shp, Bool.false_eq_true] at h <;> simp [pyT, PyData.canLay0, PyData.depth, h]
  | succ n ih =>
    intro d h
    cases d <;> simp only [shp, Bool.false_eq_true] at h <;> try (simp [pyT, PyData.canLay0, PyData.depth, h]; done)
    all_goals
      rename_i xs
      have hx := List.all_eq_true.mp h
      simp only [pyT, PyData.canLay0, PyData.depth, pyTs_map]
      refine ⟨canLayAll_of fun y hy => ?_, ?_⟩
      · obtain ⟨z, hz, rfl⟩ := List.mem_map.mp hy
        exact (ih (hx z hz)).1
      · have := depthAll_of (l := xs.map pyT) (n := n) fun y hy => by
          obtain ⟨z, hz, rfl⟩ := List.mem_map.mp hy
          exact (ih (hx z hz)).2
        omega
theorem shp_ok {d : D} (h : shp 64 d = true) : SeqAt.shaped (pyT d) = true := by
  obtain ⟨h1, h2⟩ := shp_shaped h
  unfold SeqAt.shaped
  rw [h1, decide_eq_true h2]
  rfl
mutual
theorem eqv_deq : ∀ (x y : D), (∃ n, shp n x = true) → (∃ n, shp n y = true) → PyData.eqv (pyT x) (pyT y) = deq x y
  | .non, y, _, ⟨n, h⟩ => by cases y <;> first | simp [pyT, PyData.eqv, deq]; done | (cases n <;> simp [shp] at h; done)
  | .bl a, y, _, ⟨n, h⟩ => by cases y <;> first | simp [pyT, PyData.eqv, deq]; done | (cases n <;> simp [shp] at h; done)
  | .int a, y, _, ⟨n, h⟩ => by cases y <;> first | simp [pyT, PyData.eqv, deq]; done | (cases n <;> simp [shp] at h; done)
  | .str a, y, _, ⟨n, h⟩ => by cases y <;> first | simp [pyT, PyData.eqv, deq]; done | (cases n <;> simp [shp] at h; done)
  | .ref a, y, ⟨n, h⟩, _ => by cases n <;> simp [shp] at h
  | .ty a, y, ⟨n, h⟩, _ => by cases n <;> simp [shp] at h
  | .tup xs, y, ⟨m, hm⟩, ⟨n, h⟩ => by
    cases m with
    | zero => simp [shp] at hm
    | succ m =>
      simp only [shp] at hm
      cases y <;> try (first | simp [pyT, PyData.eqv, deq]; done | (cases n <;> simp [shp] at h; done))
      rename_i ys
      cases n with
      | zero => simp [shp] at h
      | succ n =>
        simp only [shp] at h
        simp only [pyT, PyData.eqv, deq]
        exact eqv_deqs xs ys ⟨m, hm⟩ ⟨n, h⟩
  | .lst xs, y, ⟨m, hm⟩, ⟨n, h⟩ => by
    cases m with
    | zero => simp [shp] at hm
    | succ m =>
      simp only [shp] at hm
      cases y <;> try (first | simp [pyT, PyData.eqv, deq]; done | (cases n <;> simp [shp] at h; done))
      all_goals
        rename_i ys
        cases n with
        | zero => simp [shp] at h
        | succ n =>
          simp only [shp] at h
          simp only [pyT, PyData.eqv, deq]
          exact eqv_deqs xs ys ⟨m, hm⟩ ⟨n, h⟩
  | .scr xs, y, ⟨m, hm⟩, ⟨n, h⟩ => by
    cases m with
    | zero => simp [shp] at hm
    | succ m =>
      simp only [shp] at hm
      cases y <;> try (first | simp [pyT, PyData.eqv, deq]; done | (cases n <;> simp [shp] at h; done))
      all_goals
        rename_i ys
        cases n with
        | zero => simp [shp] at h
        | succ n =>
          simp only [shp] at h
          simp only [pyT, PyData.eqv, deq]
          exact eqv_deqs xs ys ⟨m, hm⟩ ⟨n, h⟩
theorem eqv_deqs : ∀ (xs ys : List D), (∃ n, xs.all (shp n) = true) → (∃ n, ys.all (shp n) = true) → PyData.eqvAll (pyTs xs) (pyTs ys) = deqs xs ys
  | [], [], _, _ => by simp [pyTs, PyData.eqvAll, deqs]
  | [], _ :: _, _, _ => by simp [pyTs, PyData.eqvAll, deqs]
  | _ :: _, [], _, _ => by simp [pyTs, PyData.eqvAll, deqs]
  | x :: xs, y :: ys, ⟨m, hm⟩, ⟨n, h⟩ => by
    simp only [List.all_cons, Bool.and_eq_true] at hm h
    simp only [pyTs, PyData.eqvAll, deqs]
    rw [eqv_deq x y ⟨m, hm.1⟩ ⟨n, h.1⟩, eqv_deqs xs ys ⟨m, hm.2⟩ ⟨n, h.2⟩]
end
/-- a list that may be changed, as it stands -/
def deref (M : Mp) : D → D
  | .ref a => match M a with
    | some (.lst xs) => .lst xs
    | _ => .ref a
  | d => d
mutual
theorem den_dp {K : PySem.W.Frag} {H : Hp} {M : Mp} : ∀ (d : D) {v : V}, (∃ n, shp n d = true) → Den K H M d v → Dp K H v (pyT d)
  | .non, _, _, h => by simp only [Den] at h; subst h; simp only [pyT]; exact .non
  | .bl _, _, _, h => by simp only [Den] at h; subst h; simp only [pyT]; exact .bl _
  | .int _, _, _, h => by simp only [Den] at h; subst h; simp only [pyT]; exact .int _
  | .str _, _, _, h => by simp only [Den] at h; subst h; simp only [pyT]; exact .str _
  | .ref _, _, ⟨n, q⟩, _ => by cases n <;> simp [shp] at q
  | .ty _, _, ⟨n, q⟩, _ => by cases n <;> simp [shp] at q
  | .tup xs, _, ⟨n, q⟩, h => by
    cases n with
    | zero => simp [shp] at q
    | succ n =>
      simp only [shp] at q
      simp only [Den] at h
      obtain ⟨a, vs, rfl, t, l⟩ := h
      simp only [pyT]
      exact .tup t.sq (den_dps xs ⟨n, q⟩ l)
  | .lst xs, _, ⟨n, q⟩, h => by
    cases n with
    | zero => simp [shp] at q
    | succ n =>
      simp only [shp] at q
      simp only [Den] at h
      obtain ⟨a, vs, rfl, t, l⟩ := h
      simp only [pyT]
      exact .lst t.sq (den_dps xs ⟨n, q⟩ l)
  | .scr xs, _, ⟨n, q⟩, h => by
    cases n with
    | zero => simp [shp] at q
    | succ n =>
      simp only [shp] at q
      simp only [Den] at h
      obtain ⟨a, vs, rfl, t, l⟩ := h
      simp only [pyT]
      exact .lst t.sq (den_dps xs ⟨n, q⟩ l)
theorem den_dps {K : PySem.W.Frag} {H : Hp} {M : Mp} : ∀ (ds : List D) {vs : List V}, (∃ n, ds.all (shp n) = true) → DenL K H M ds vs → DpAll K H vs (pyTs ds)
  | [], _, _, h => by simp only [DenL] at h; subst h; simp only [pyTs]; exact .nil
  | d :: ds, _, ⟨n, q⟩, h => by
    simp only [List.all_cons, Bool.and_eq_true] at q
    simp only [DenL] at h
    obtain ⟨v, r, rfl, x, y⟩ := h
    simp only [pyTs]
    exact .cons (den_dp d ⟨n, q.1⟩ x) (den_dps ds ⟨n, q.2⟩ y)
end
theorem deref_dp {H : Hp} {M : Mp} {d : D} {v : V} (ab : Abs C.X.K H M) (h : shp 64 (deref M d) = true) (dn : Den C.X.K H M d v) : Dp C.X.K H v (pyT (deref M d)) := by
  cases d <;> try exact den_dp _ ⟨64, h⟩ dn
  rename_i q
  simp only [Den] at dn
  subst dn
  unfold deref at h ⊢
  simp only at h ⊢
  split at h
  · rename_i xs hM
    obtain ⟨vs, hH, l⟩ := ab q _ hM
    simp only [shp] at h
    simp only [pyT]
    exact .lst (.inl (.inl hH)) (den_dps xs ⟨_, h⟩ l)
  · simp [shp] at h
def fEq : O2 := fun x y M => match x, y with
  | .str a, .str b => some (.bl (decide (a = b)))
  | _, _ => if shp 64 (deref M x) = true ∧ shp 64 (deref M y) = true then some (.bl (deq (deref M x) (deref M y))) else none
def fNe : O2 := fun x y M => match x, y with
  | .str a, .str b => some (.bl (!decide (a = b)))
  | _, _ => if shp 64 (deref M x) = true ∧ shp 64 (deref M y) = true then some (.bl (!deq (deref M x) (deref M y))) else none
theorem DC.un64 (C : DC) : C.X.A.units + 65 < cLine := by have := C.un; omega
theorem dop_eq : DOp C (compareOp .Eq) fEq := fun pins s σ H M x y u v d e z I sr r1 r2 d1 d2 ez => by
  unfold fEq at ez
  split at ez
  · cases ez
    rename_i a b
    simp only [Den] at d1 d2
    refine thn (op_eq pins s σ H x y u v (fun w H' => H' = H ∧ w = .bl (decide (a = b))) I r1 r2 ⟨by rw [d1, d2]; rfl, rfl, by rw [d1, d2]; simp⟩) fun w s' ⟨wv, H', I', rw, e1, e2⟩ => ?_
    subst e1; subst e2
    exact ⟨_, H', _, M, I', rw, Go.refl sr, by simp only [Den], rfl, rfl⟩
  · refine DOp.of (f := fun x y M => if shp 64 (deref M x) = true ∧ shp 64 (deref M y) = true then some (.bl (deq (deref M x) (deref M y))) else none) (op_eqD (by have := C.un64; omega)) (fun pins s σ H M x y d e z Q I sr d1 d2 ez k => ?_) pins s σ H M x y u v d e z I sr r1 r2 d1 d2 ez
    split at ez <;> cases ez
    rename_i h
    refine ⟨_, _, deref_dp sr.abs h.1 d1, deref_dp sr.abs h.2 d2, shp_ok h.1, shp_ok h.2, ?_⟩
    rw [eqv_deq _ _ ⟨_, h.1⟩ ⟨_, h.2⟩]
    exact k _ _ (Go.refl sr) (by simp only [Den])
theorem dop_ne : DOp C (compareOp .NotEq) fNe := fun pins s σ H M x y u v d e z I sr r1 r2 d1 d2 ez => by
  unfold fNe at ez
  split at ez
  · cases ez
    rename_i a b
    simp only [Den] at d1 d2
    refine thn (op_ne pins s σ H x y u v (fun w H' => H' = H ∧ w = .bl (!decide (a = b))) I r1 r2 ⟨by rw [d1, d2]; rfl, rfl, by rw [d1, d2]; simp⟩) fun w s' ⟨wv, H', I', rw, e1, e2⟩ => ?_
    subst e1; subst e2
    exact ⟨_, H', _, M, I', rw, Go.refl sr, by simp only [Den], rfl, rfl⟩
  · refine DOp.of (f := fun x y M => if shp 64 (deref M x) = true ∧ shp 64 (deref M y) = true then some (.bl (!deq (deref M x) (deref M y))) else none) (op_neD (by have := C.un64; omega)) (fun pins s σ H M x y d e z Q I sr d1 d2 ez k => ?_) pins s σ H M x y u v d e z I sr r1 r2 d1 d2 ez
    split at ez <;> cases ez
    rename_i h
    refine ⟨_, _, deref_dp sr.abs h.1 d1, deref_dp sr.abs h.2 d2, shp_ok h.1, shp_ok h.2, ?_⟩
    rw [eqv_deq _ _ ⟨_, h.1⟩ ⟨_, h.2⟩]
    exact k _ _ (Go.refl sr) (by simp only [Den])
/-! ### in -/
def fIn : O2 := fun x y M => match y with
  | .str _ => none
  | _ => (items M y).bind fun ys => if shp 64 (deref M x) = true ∧ ys.all (shp 63) = true then some (.bl (ys.any fun z => deq z (deref M x))) else none
def fNotIn : O2 := fun x y M => match y with
  | .str _ => none
  | _ => (items M y).bind fun ys => if shp 64 (deref M x) = true ∧ ys.all (shp 63) = true then some (.bl (!ys.any fun z => deq z (deref M x))) else none
theorem any_deq {ys : List D} {x : D} (hx : shp 64 x = true) (hy : ys.all (shp 63) = true) : (pyTs ys).any (fun y => PyData.eqv y (pyT x)) = ys.any fun z => deq z x := by
  rw [pyTs_map, List.any_map]
  have h := List.all_eq_true.mp hy
  clear hy
  induction ys with
  | nil => rfl
  | cons y ys ih =>
    simp only [List.any_cons, Function.comp_apply]
    rw [eqv_deq y x ⟨63, h y List.mem_cons_self⟩ ⟨64, hx⟩, ih fun z hz => h z (List.mem_cons_of_mem _ hz)]
/-- what a search in a sequence reads -/
theorem in_reads {pins : List (Addr × Obj)} {s : Shared} {σ : L2.St} {H : Hp} {M : Mp} {d e : D} {x y : V} {u v : Value} {ys : List D} (I : Inv C.X pins σ H s) (sr : SR C H M) (r1 : RelV x u) (r2 : RelV y v) (d1 : Den C.X.K H M d x) (d2 : Den C.X.K H M e y)
    (he : items M e = some ys) (hx : shp 64 (deref M d) = true) (hy : ys.all (shp 63) = true) :
    ∃ as bs, Reads s.heap u (pyT (deref M d)) bs ∧ PyData.canLayAll0 (pyTs ys) = true ∧ (pyT (deref M d)).canLay0 = true ∧ C.X.A.units + 1 + min (PyData.depthAll (pyTs ys)) (pyT (deref M d)).depth < cLine ∧ (Reads s.heap v (.list (pyTs ys)) as ∨ Reads s.heap v (.tuple (pyTs ys)) as) := by
  obtain ⟨bs, rx⟩ := Dp.reads I _ x u (deref_dp sr.abs hx d1) r1
  obtain ⟨q, vs, rfl, l, hl, hz, h⟩ := seq_v I sr d2 he
  have ds := den_dps ys ⟨63, hy⟩ l
  have hs : shp 64 (.lst ys) = true := by simp only [shp]; exact hy
  have sh := shp_ok hs
  simp only [pyT] at sh
  have hc : PyData.canLayAll0 (pyTs ys) = true := SeqAt.canLay_of_shaped sh
  have room : C.X.A.units + 1 + min (PyData.depthAll (pyTs ys)) (pyT (deref M d)).depth < cLine := by
    have h1 := SeqAt.depth_of_shaped (shp_ok hx)
    have h2 := C.un64
    have h3 : min (PyData.depthAll (pyTs ys)) (pyT (deref M d)).depth ≤ (pyT (deref M d)).depth := Nat.min_le_right _ _
    omega
  rcases h with ⟨h, _⟩ | ⟨h, _⟩
  · obtain ⟨as, ry⟩ := Dp.reads I (.tuple (pyTs ys)) _ v (.tup h ds) r2
    exact ⟨as, bs, rx, hc, (shp_shaped hx).1, room, .inr ry⟩
  · obtain ⟨as, ry⟩ := Dp.reads I (.list (pyTs ys)) _ v (.lst h ds) r2
    exact ⟨as, bs, rx, hc, (shp_shaped hx).1, room, .inl ry⟩
theorem dop_in : DOp C (compareOp .In) fIn := fun pins s σ H M x y u v d e z I sr r1 r2 d1 d2 ez => by
  unfold fIn at ez
  split at ez
  · cases ez
  · cases q : items M e with
    | none => rw [q] at ez; cases ez
    | some ys =>
      rw [q, Option.bind_some] at ez
      split at ez <;> cases ez
      rename_i h
      obtain ⟨as, bs, rx, hc, hd, room, ry⟩ := in_reads I sr r1 r2 d1 d2 q h.1 h.2
      have fin : EPD C pins σ H M (fun z' M' => z' = .bl (ys.any fun z => deq z (deref M d)) ∧ M' = M) (.bool ((pyTs ys).any fun y => PyData.eqv y (pyT (deref M d)))) s :=
        ⟨.bl _, H, _, M, I, rfl, Go.refl sr, by rw [any_deq h.1 h.2]; simp only [Den], rfl, rfl⟩
      rcases ry with ry | ry
      · exact SeqAt.in_list_reads ry rx hc hd room fin
      · exact SeqAt.in_tuple_reads ry rx hc hd room fin
theorem dop_notIn : DOp C (compareOp .NotIn) fNotIn := fun pins s σ H M x y u v d e z I sr r1 r2 d1 d2 ez => by
  unfold fNotIn at ez
  split at ez
  · cases ez
  · cases q : items M e with
    | none => rw [q] at ez; cases ez
    | some ys =>
      rw [q, Option.bind_some] at ez
      split at ez <;> cases ez
      rename_i h
      obtain ⟨as, bs, rx, hc, hd, room, ry⟩ := in_reads I sr r1 r2 d1 d2 q h.1 h.2
      have fin : EPD C pins σ H M (fun z' M' => z' = .bl (!ys.any fun z => deq z (deref M d)) ∧ M' = M) (.bool (!(pyTs ys).any fun y => PyData.eqv y (pyT (deref M d)))) s :=
        ⟨.bl _, H, _, M, I, rfl, Go.refl sr, by rw [any_deq h.1 h.2]; simp only [Den], rfl, rfl⟩
      rcases ry with ry | ry
      · exact SeqAt.notIn_list_reads ry rx hc hd room fin
      · exact SeqAt.notIn_tuple_reads ry rx hc hd room fin
end
end DL

/-! +, *, items, parts, list methods, sorted, repr over data. -/
namespace DL
open PySem PySem.Spec PyProof.Rows L2
section
variable {C : DC} {e a b o : Expr} {es : List Expr} {x : Str} {p pos : Pos} {ta tb te to : DE} {t : DA} {id : String}

/-! ### + -/
def fAdd : O2 := fun x y M => match x with
  | .int i => (match y with
    | .int j => some (.int (i + j))
    | _ => none)
  | .str s => (match y with
    | .str z => if s.length + z.length ≤ sizeLine then some (.str (s ++ z)) else none
    | _ => none)
  | .tup xs => (match y with
    | .tup ys => if xs.length + ys.length ≤ sizeLine then some (.tup (xs ++ ys)) else none
    | _ => none)
  | _ => (match deref M x, deref M y with
    | .lst xs, .lst ys => if xs.length + ys.length ≤ sizeLine then some (.lst (xs ++ ys)) else none
    | _, _ => none)
theorem deref_lst {H : Hp} {M : Mp} {d : D} {v : V} {xs : List D} (ab : Abs C.X.K H M) (h : deref M d = .lst xs) (dn : Den C.X.K H M d v) : ∃ q vs, v = .ref q ∧ H q = some (.lst vs) ∧ DenL C.X.K H M xs vs := by
  cases d <;> simp only [deref, reduceCtorEq, D.lst.injEq] at h
  case lst ys =>
    subst h
    simp only [Den] at dn
    obtain ⟨q, vs, rfl, t, l⟩ := dn
    exact ⟨q, vs, rfl, t.2, l⟩
  case ref q =>
    simp only [Den] at dn
    subst dn
    split at h
    · rename_i ys hM
      cases h
      obtain ⟨vs, hH, l⟩ := ab q _ hM
      exact ⟨q, vs, rfl, hH, l⟩
    · cases h
theorem dop_add : DOp C (binaryOp .Add) fAdd := fun pins s σ H M x y u v d e z I sr r1 r2 d1 d2 ez => by
  have fin : ∀ {F : Value → Value → Sem Value} {r : R2} (_ : OpR C.X F r), r x y H (fun w H' => Go C H M H' M ∧ Den C.X.K H' M z w) → wpAny (model C.X.prog C.X.w) C.X.A (F u v) (EPD C pins σ H M fun z' M' => z' = z ∧ M' = M) C.X.xe s := fun {F r} h q =>
    thn (h pins s σ H x y u v _ I r1 r2 q) fun w s' ⟨wv, H', I', rw, g, dn⟩ => ⟨wv, H', z, M, I', rw, g, dn, rfl, rfl⟩
  have lists : ∀ xs ys, deref M d = .lst xs → deref M e = .lst ys → xs.length + ys.length ≤ sizeLine → z = .lst (xs ++ ys) → wpAny (model C.X.prog C.X.w) C.X.A (binaryOp .Add u v) (EPD C pins σ H M fun z' M' => z' = z ∧ M' = M) C.X.xe s := fun xs ys h1 h2 hz he => by
    subst he
    obtain ⟨q, vs, rfl, hq, l1⟩ := deref_lst sr.abs h1 d1
    obtain ⟨q', ws, rfl, hq', l2⟩ := deref_lst sr.abs h2 d2
    exact fin op_cat ⟨q, q', vs, ws, rfl, rfl, hq, hq', by rw [l1.length, l2.length]; exact hz, fun p hp => new_lst sr hp (l1.append l2)⟩
  unfold fAdd at ez
  split at ez
  · split at ez <;> cases ez
    simp only [Den] at d1 d2
    exact fin op_add ⟨_, _, d1, d2, Go.refl sr, by simp only [Den]⟩
  · split at ez <;> try cases ez
    split at ez <;> cases ez
    rename_i hz
    simp only [Den] at d1 d2
    exact fin op_add_str ⟨_, _, d1, d2, hz, Go.refl sr, by simp only [Den]⟩
  · split at ez <;> try cases ez
    split at ez <;> cases ez
    rename_i xs _ ys hz
    have d1' := d1
    have d2' := d2
    simp only [Den] at d1 d2
    obtain ⟨q, vs, rfl, t1, l1⟩ := d1
    obtain ⟨q', ws, rfl, t2, l2⟩ := d2
    refine fin op_catA ⟨q, q', vs, ws, rfl, rfl, t1.sq, t2.sq, by rw [l1.length, l2.length]; exact hz, fun h0 => ?_, fun _ h0 => ?_, fun _ _ p hp => new_tup sr hp (l1.append l2)⟩
    · subst h0
      have := l1.length
      have e : xs = [] := List.length_eq_zero_iff.mp this.symm
      subst e
      exact ⟨Go.refl sr, d2'⟩
    · subst h0
      have := l2.length
      have e : ys = [] := List.length_eq_zero_iff.mp this.symm
      subst e
      rw [List.append_nil]
      exact ⟨Go.refl sr, d1'⟩
  · split at ez
    · split at ez <;> cases ez
      rename_i h1 h2 hz
      exact lists _ _ h1 h2 hz rfl
    · cases ez

/-! ### items -/
def fIx : O2 := fun x y M => match y with
  | .int i => (match x with
    | .str z => if z.length ≤ sizeLine then (L2.atI z.cps.toList i).map fun c => .str ⟨#[c]⟩ else none
    | _ => (items M x).bind fun xs => L2.atI xs i)
  | _ => none
theorem atI_den {K : PySem.W.Frag} {H : Hp} {M : Mp} {xs : List D} {vs : List V} {i : Int} {d : D} (l : DenL K H M xs vs) (h : L2.atI xs i = some d) : ∃ v, L2.atI vs i = some v ∧ Den K H M d v := by
  unfold L2.atI at h ⊢
  rw [l.length]
  cases q : L2.ixN xs.length i with
  | none => rw [q] at h; cases h
  | some j =>
    rw [q, Option.bind_some] at h
    rw [Option.bind_some]
    exact l.get h
theorem dop_ix {va sl : Expr} (hs : PlainIx sl) : DOp C (subscriptTail va sl) fIx := fun pins s σ H M x y u v d e z I sr r1 r2 d1 d2 ez => by
  have fin : ∀ {r : R2} (_ : IxR C.X r), r x y H (fun w H' => H' = H ∧ Den C.X.K H M z w) → wpAny (model C.X.prog C.X.w) C.X.A (subscriptTail va sl u v) (EPD C pins σ H M fun z' M' => z' = z ∧ M' = M) C.X.xe s := fun {r} h q =>
    thn (h va sl pins s σ H x y u v _ I r1 r2 q (hs _ _)) fun w s' ⟨wv, H', I', rw, eH, dn⟩ => by subst eH; exact ⟨wv, _, z, M, I', rw, Go.refl sr, dn, rfl, rfl⟩
  unfold fIx at ez
  split at ez
  · rename_i i
    simp only [Den] at d2
    subst d2
    split at ez
    · rename_i zz
      split at ez <;> try cases ez
      rename_i hz
      cases q : L2.atI zz.cps.toList i with
      | none => rw [q] at ez; cases ez
      | some c =>
        rw [q] at ez; cases ez
        simp only [Den] at d1
        exact fin ix_str ⟨zz, i, c, d1, rfl, hz, q, rfl, by simp only [Den]⟩
    · cases q : items M d with
      | none => rw [q] at ez; cases ez
      | some xs =>
        rw [q, Option.bind_some] at ez
        obtain ⟨q', vs, rfl, l, hl, hz, h⟩ := seq_v I sr d1 q
        obtain ⟨w, hw, dw⟩ := atI_den l ez
        rcases h with ⟨h, _⟩ | ⟨h, _⟩
        · exact fin ix_tup ⟨q', vs, i, w, rfl, rfl, h, hw, rfl, dw⟩
        · exact fin ix_list ⟨q', vs, i, w, rfl, rfl, h, hw, rfl, dw⟩
  · cases ez
theorem de_ix (ha : DPE C a ta) (hb : DPE C b tb) (hs : PlainIx b := by intro _ _; rfl) : DPE C (.Subscript a b pos) (dOp fIx ta tb) :=
  ⟨mono_op ha.mono hb.mono, fun pins s σ H τ M Q I er sr q => Subscript_ (bin2 (F := subscriptTail a b) (dop_ix hs) ha hb I er sr q)⟩

/-! ### parts -/
abbrev DO := Sd → Mp → (Option Int → Mp → Prop) → DX → Prop
def MonoO (t : DO) : Prop := ∀ (τ : Sd) (M : Mp) (Q Q' : Option Int → Mp → Prop) (E E' : DX), (∀ d M', Q d M' → Q' d M') → (∀ c fs M', E c fs M' → E' c fs M') → t τ M Q E → t τ M Q' E'
structure DPO (C : DC) (e : Option Expr) (t : DO) : Prop where
  mono : MonoO t
  go : ∀ (pins : List (Addr × Obj)) (s : Shared) (σ : L2.St) (H : Hp) (τ : Sd) (M : Mp) (Q : Option Int → Mp → Prop), Inv C.X pins σ H s → EnvR C.X.K H M τ σ → SR C H M → t τ M Q (xw C τ) →
    wpAny (model C.X.prog C.X.w) C.X.A (evalPart e C.X.env) (fun u s' => ∃ o H' M', Inv C.X pins σ H' s' ∧ IsPart u o ∧ Go C H M H' M' ∧ Q o M') C.X.xe s
def oNone : DO := fun _ M Q _ => Q none M
def oSome (t : DE) : DO := fun τ M Q E => t τ M (fun d M1 => match d with
  | .int i => Q (some i) M1
  | _ => False) E
theorem do_none : DPO C none oNone := ⟨fun τ M Q Q' E E' h _ q => h _ _ q, fun pins s σ H τ M Q I er sr q => by
  rw [evalPart_none]
  exact wpAny_pure ⟨none, H, M, I, .none, Go.refl sr, q⟩⟩
theorem do_some (h : DPE C e te) : DPO C (some e) (oSome te) := ⟨fun τ M Q Q' E E' h1 he q => h.mono τ M _ _ _ _ (fun d M1 z => by
    cases d <;> first | exact h1 _ _ z | exact z) he q, fun pins s σ H τ M Q I er sr q => by
  rw [evalPart_some]
  refine thn (h.go pins s σ H τ M _ I er sr q) fun u s1 ⟨x, H1, d, M1, I1, r1, g1, dn1, q1⟩ => ?_
  cases d <;> try exact q1.elim
  simp only [Den] at dn1
  subst dn1
  obtain ⟨t, rfl⟩ := r1
  exact ⟨_, H1, M1, I1, .int _ t, g1, q1⟩⟩
def cutD (xs : List D) (lo hi : Option Int) : List D := (xs.drop (HT.sIx xs.length 0 lo)).take (HT.sIx xs.length xs.length hi - HT.sIx xs.length 0 lo)
def part (M : Mp) (d : D) (lo hi : Option Int) : Option D := match d with
  | .str z => if z.length ≤ sizeLine then some (.str (cutS z lo hi)) else none
  | .tup xs => some (.tup (cutD xs lo hi))
  | d => (items M d).map fun xs => .lst (cutD xs lo hi)
theorem DenL.cut {K : PySem.W.Frag} {H : Hp} {M : Mp} {xs : List D} {vs : List V} (l : DenL K H M xs vs) (lo hi : Option Int) : DenL K H M (cutD xs lo hi) (cutV vs lo hi) := by
  unfold cutD cutV
  rw [l.length]
  exact (l.drop _).take _
def dPart (te : DE) (tl th : DO) : DE := fun τ M Q E => te τ M (fun x M1 => tl τ M1 (fun lo M2 => th τ M2 (fun hi M3 => ok1 (part M3 x lo hi) fun z => Q z M3) E) E) E
theorem mono_part {tl th : DO} (m : MonoE te) (n : MonoO tl) (o : MonoO th) : MonoE (dPart te tl th) := fun τ M Q Q' E E' h he q =>
  m τ M _ _ _ _ (fun x M1 => n τ M1 _ _ _ _ (fun lo M2 => o τ M2 _ _ _ _ (fun hi M3 => ok1_mono fun z => h z M3) he) he) he q
theorem de_part {lo hi : Option Expr} {tl th : DO} {p2 : Pos} (he : DPE C e te) (hl : DPO C lo tl) (hu : DPO C hi th) : DPE C (.Subscript e (.Slice lo hi none p2) pos) (dPart te tl th) := ⟨mono_part he.mono hl.mono hu.mono, fun pins s σ H τ M Q I er sr q => by
  refine Subscript_ (thn (he.go pins s σ H τ M _ I er sr q) fun v s1 ⟨x, H1, d, M1, I1, r1, g1, dn1, q1⟩ => ?_)
  refine wpAny_Slice (thn (hl.go pins s1 σ H1 τ M1 _ I1 (er.keep g1.keep) (sr.go g1) q1) fun vl s2 ⟨l, H2, M2, I2, pl, g2, q2⟩ => thn (hu.go pins s2 σ H2 τ M2 _ I2 (er.keep (g1.trans g2).keep) ((sr.go g1).go g2) q2) fun vu s3 ⟨u, H3, M3, I3, pu, g3, q3⟩ => ?_)
  rw [evalPart_none]
  refine wpAny_pure ?_
  have I4 : Inv C.X pins σ H3 { s3 with heap := s3.heap.push { cls := .type "slice", data := .fields #[vl, vu, .none] } } := I3.kept (t' := s3.toks) fun b ob q => Heap.get?_push_of_some _ q
  obtain ⟨z, ez, q3⟩ := ok1_ex q3
  have g13 := (g1.trans g2).trans g3
  have sr3 := sr.go g13
  have dn3 := Den.keep (g2.trans g3).keep d dn1
  have fin : ∀ {r : V → Option Int → Option Int → Hp → VK → Prop} (_ : SlR C.X r), r x l u H3 (fun w H' => Go C H3 M3 H' M3 ∧ Den C.X.K H' M3 z w) →
      wpAny (model C.X.prog C.X.w) C.X.A (subscriptTail e (.Slice lo hi none p2) v (.ref s3.heap.objs.size)) (EPD C pins σ H M Q) C.X.xe { s3 with heap := s3.heap.push { cls := .type "slice", data := .fields #[vl, vu, .none] } } := fun {r} h q => by
    obtain ⟨T, id, hT, ht, hg⟩ := h pins { s3 with heap := s3.heap.push { cls := .type "slice", data := .fields #[vl, vu, .none] } } σ H3 x v vl vu l u s3.heap.objs.size _ I4 r1 (Heap.IsSliceOf.new ..) pl pu q
    exact tail_any (ops := [.ref s3.heap.objs.size, v]) ht hT (thn hg fun w s' ⟨wv, H', I', rw, g, dn⟩ => ⟨wv, H', z, M3, I', rw, g13.trans g, dn, q3⟩) (by with_unfolding_all rfl)
  have lists : ∀ xs, items M3 d = some xs → (∀ zs, d ≠ .tup zs) → z = .lst (cutD xs l u) → wpAny (model C.X.prog C.X.w) C.X.A (subscriptTail e (.Slice lo hi none p2) v (.ref s3.heap.objs.size)) (EPD C pins σ H M Q) C.X.xe { s3 with heap := s3.heap.push { cls := .type "slice", data := .fields #[vl, vu, .none] } } := fun xs hx hn he => by
    subst he
    obtain ⟨q', vs, rfl, l', hl', hz, h⟩ := seq_v I3 sr3 dn3 hx
    rcases h with ⟨_, zs, h⟩ | ⟨h, _⟩
    · exact absurd h (hn zs)
    · exact fin sl_list ⟨q', vs, rfl, h, fun p hp => new_lst sr3 hp (l'.cut l u)⟩
  show wpAny (model C.X.prog C.X.w) C.X.A (subscriptTail e (.Slice lo hi none p2) v (.ref s3.heap.objs.size)) (EPD C pins σ H M Q) C.X.xe { s3 with heap := s3.heap.push { cls := .type "slice", data := .fields #[vl, vu, .none] } }
  by_cases ht : ∃ xs, d = .tup xs
  · obtain ⟨xs, rfl⟩ := ht
    cases (show some (D.tup (cutD xs l u)) = some z from ez)
    have dn0 := dn3
    simp only [Den] at dn3
    obtain ⟨q', vs, rfl, t', l'⟩ := dn3
    refine fin sl_tupA ⟨q', vs, rfl, t'.sq, fun hw => ⟨Go.refl sr3, ?_⟩, fun _ p hp => new_tup sr3 hp (l'.cut l u)⟩
    have e : cutD xs l u = xs := by
      rw [l'.length] at hw
      unfold cutD
      rw [hw.1, hw.2]
      simp
    rw [e]
    exact dn0
  · by_cases hs : ∃ zz, d = .str zz
    · obtain ⟨zz, rfl⟩ := hs
      simp only [part] at ez
      split at ez <;> cases ez
      rename_i hz
      simp only [Den] at dn3
      exact fin sl_str ⟨_, dn3, hz, Go.refl sr3, by simp only [Den]⟩
    · have e : part M3 d l u = (items M3 d).map fun xs => .lst (cutD xs l u) := by
        cases d <;> first | rfl | exact absurd ⟨_, rfl⟩ ht | exact absurd ⟨_, rfl⟩ hs
      rw [e] at ez
      cases q : items M3 d with
      | none => rw [q] at ez; cases ez
      | some xs =>
        rw [q] at ez
        cases ez
        exact lists xs q (fun zs z => ht ⟨zs, z⟩) rfl⟩
end
end DL

/-! *, list methods, sorted, repr, sets of tuples sorted, over data. -/
namespace DL
open PySem PySem.Spec PyProof.Rows L2
section
variable {C : DC} {e a b o : Expr} {es : List Expr} {x : Str} {p p2 q2 pos apos cpos : Pos} {ta tb te to : DE} {t : DA} {id T : String} {name : Str}

/-! ### * -/
def fMul : O2 := fun x y M => match x, y with
  | .int i, .int j => if (small i || small j) = true then some (.int (i * j)) else none
  | .tup xs, .int k => if xs ≠ [] ∧ 2 ≤ k ∧ k ≤ 1000 ∧ xs.length ≤ 1000 then some (.tup (List.replicate k.toNat xs).flatten) else none
  | d, .int k => (match deref M d with
    | .lst xs => if -1000000 ≤ k ∧ k ≤ 1000000 ∧ xs.length * k.toNat ≤ sizeLine then some (.lst (List.replicate k.toNat xs).flatten) else none
    | _ => none)
  | _, _ => none
theorem DenL.rep {K : PySem.W.Frag} {H : Hp} {M : Mp} {xs : List D} {vs : List V} (l : DenL K H M xs vs) : ∀ n, DenL K H M (List.replicate n xs).flatten (List.replicate n vs).flatten
  | 0 => DenL.nil
  | n + 1 => by
    rw [List.replicate_succ, List.replicate_succ, List.flatten_cons, List.flatten_cons]
    exact l.append (DenL.rep l n)
theorem dop_mul2 : DOp C (binaryOp .Mult) fMul := fun pins s σ H M x y u v d e z I sr r1 r2 d1 d2 ez => by
  have fin : ∀ {F : Value → Value → Sem Value} {r : R2} (_ : OpR C.X F r), r x y H (fun w H' => Go C H M H' M ∧ Den C.X.K H' M z w) → wpAny (model C.X.prog C.X.w) C.X.A (F u v) (EPD C pins σ H M fun z' M' => z' = z ∧ M' = M) C.X.xe s := fun {F r} h q =>
    thn (h pins s σ H x y u v _ I r1 r2 q) fun w s' ⟨wv, H', I', rw, g, dn⟩ => ⟨wv, H', z, M, I', rw, g, dn, rfl, rfl⟩
  unfold fMul at ez
  split at ez
  · split at ez <;> cases ez
    rename_i i j h
    exact dop_mul pins s σ H M x y u v _ _ _ I sr r1 r2 d1 d2 (by simp only [fMulI, fI]; rw [if_pos h])
  · split at ez <;> cases ez
    rename_i xs k h
    simp only [Den] at d1 d2
    obtain ⟨q, vs, rfl, t1, l⟩ := d1
    subst d2
    have hl := l.length
    exact fin op_repT ⟨q, k, vs, rfl, rfl, t1.sq, fun z => h.1 (by subst z; exact List.length_eq_zero_iff.mp hl.symm), h.2.1, h.2.2.1, by omega, fun p hp => new_tup sr hp (l.rep _)⟩
  · split at ez
    · rename_i xs hx
      split at ez <;> cases ez
      rename_i k _ _ _ h
      simp only [Den] at d2
      subst d2
      obtain ⟨q, vs, rfl, hq, l⟩ := deref_lst sr.abs hx d1
      have hl := l.length
      exact fin op_rep ⟨q, k, vs, rfl, rfl, hq, by omega, by omega, by rw [hl]; exact h.2.2, fun p hp => new_lst sr hp (l.rep _)⟩
    · cases ez
  · cases ez

/-! ### methods of built-in types -/
abbrev DM := D → List D → Mp → DK → Prop
def MonoM (r : DM) : Prop := ∀ (d : D) (ds : List D) (M : Mp) (Q Q' : DK), (∀ d M', Q d M' → Q' d M') → r d ds M Q → r d ds M Q'
def dMeth (ty : Mp → D → Prop) (r : DM) (to : DE) (t : DA) : DE := fun τ M Q E => to τ M (fun x M1 => ty M1 x ∧ t τ M1 (fun ds M2 => r x ds M2 Q) E) E
theorem mono_meth {ty : Mp → D → Prop} {r : DM} (m : MonoE to) (n : MonoA t) (k : MonoM r) : MonoE (dMeth ty r to t) := fun τ M Q Q' E E' h he q =>
  m τ M _ _ _ _ (fun x M1 z => ⟨z.1, n τ M1 _ _ _ _ (fun ds M2 => k x ds M2 _ _ h) he z.2⟩) he q
/-- what a rule of the hand layer for a method gives over data -/
def MtD (C : DC) (ty : Mp → D → Prop) (r : DM) (T : String) (rH : V → List V → Hp → VK → Prop) : Prop :=
  (∀ H M d v, SR C H M → Den C.X.K H M d v → ty M d → tyV C.X.K T v H) ∧
  ∀ H M d v ds vs (Q : DK), SR C H M → Den C.X.K H M d v → DenL C.X.K H M ds vs → r d ds M Q → rH v vs H fun w H' => ∃ z M', Go C H M H' M' ∧ Den C.X.K H' M' z w ∧ Q z M'
theorem den_det {K : PySem.W.Frag} {H H' : Hp} {M M' : Mp} : True := trivial
theorem de_meth {ty : Mp → D → Prop} {r : DM} {rH : V → List V → Hp → VK → Prop} (pa : PlainAttrs T) (slot : Slot T name id) (hty : typeOf (.builtin id) = pure (.type "method_descriptor")) (hm : MtR C.X id rH) (conv : MtD C ty r T rH) (mr : MonoM r) (ho : DPE C o to) (ha : DPA C (e :: es) t)
    (hbase : attributeBase o name C.X.env (eval o C.X.env) = eval o C.X.env := by rfl)
    (hfew : ((backTo cpos (starEach (e :: es) C.X.env)).all (fun x => !x.1) && (backToKw cpos (keywordEach [] C.X.env)).all (fun x => x.1.isSome)
      && decide ((e :: es).length + ([] : List Keyword).length + (if ([] : List Keyword).isEmpty then 0 else 1) < 30)) = true := by rfl)
    (hline : (apos.endLine == cpos.line) = true := by rfl) (hs : starEach (e :: es) C.X.env = (false, eval e C.X.env) :: starEach es C.X.env := by rfl) (hplain : (backTo cpos (starEach es C.X.env)).any (·.1) = false := by rfl) :
    DPE C (.Call (.Attribute o name apos) (e :: es) [] cpos) (dMeth ty r to t) := ⟨mono_meth ho.mono ha.mono mr, fun pins s σ H τ M Q I er sr q => by
  refine wpAny_Call_method_late hbase hfew hline rfl (thn (ho.go pins s σ H τ M _ I er sr q) fun v s1 ⟨x, H1, d, M1, I1, r1, g1, dn1, hty1, q1⟩ => ?_)
  obtain ⟨h1, h2⟩ := tyV_is I1 r1 (conv.1 H1 M1 d x (sr.go g1) dn1 hty1)
  refine ⟨T, id, pa, slot, hty, h1, h2, ?_⟩
  have hA := ha.go cpos pins s1 σ H1 τ M1 _ I1 (er.keep g1.keep) (sr.go g1) q1
  rw [hs] at hA ⊢
  refine Calls.callWith_builtin (by show (false || (backTo cpos (starEach es C.X.env)).any (·.1)) = false; rw [hplain] <;> rfl) (Calls.evalArgs_plain ?_)
  refine thn hA fun us s2 ⟨vs, H2, ds, M2, I2, r2, g2, l2, q2⟩ => ?_
  exact thn (hm pins s2 σ H2 x vs v us _ I2 r1 r2 (conv.2 H2 M2 d x ds vs Q ((sr.go g1).go g2) (Den.keep g2.keep d dn1) l2 q2)) fun w s3 ⟨wv, H3, I3, rw, z, M3, g3, dn3, q3⟩ => ⟨wv, H3, z, M3, I3, rw, (g1.trans g2).trans g3, dn3, q3⟩⟩
theorem de_meth0 {ty : Mp → D → Prop} {r : DM} {rH : V → List V → Hp → VK → Prop} (pa : PlainAttrs T) (slot : Slot T name id) (hty : typeOf (.builtin id) = pure (.type "method_descriptor")) (hm : MtR C.X id rH) (conv : MtD C ty r T rH) (mr : MonoM r) (ho : DPE C o to)
    (hbase : attributeBase o name C.X.env (eval o C.X.env) = eval o C.X.env := by rfl) (hline : (apos.endLine == cpos.line) = true := by rfl) :
    DPE C (.Call (.Attribute o name apos) [] [] cpos) (dMeth ty r to dNil) := ⟨mono_meth ho.mono mono_nil mr, fun pins s σ H τ M Q I er sr q => by
  refine wpAny_Call_method0_late hbase hline (thn (ho.go pins s σ H τ M _ I er sr q) fun v s1 ⟨x, H1, d, M1, I1, r1, g1, dn1, hty1, q1⟩ => ?_)
  obtain ⟨h1, h2⟩ := tyV_is I1 r1 (conv.1 H1 M1 d x (sr.go g1) dn1 hty1)
  refine ⟨T, id, pa, slot, hty, h1, h2, Calls.callWith_builtin rfl (PySem.evalArgs_none ?_)⟩
  exact thn (hm pins s1 σ H1 x [] v [] _ I1 r1 .nil (conv.2 H1 M1 d x [] [] Q (sr.go g1) dn1 DenL.nil q1)) fun w s3 ⟨wv, H3, I3, rw, z, M3, g3, dn3, q3⟩ => ⟨wv, H3, z, M3, I3, rw, g1.trans g3, dn3, q3⟩⟩
/-- a list that may be changed -/
def tyLst (M : Mp) (d : D) : Prop := ∃ a xs, d = .ref a ∧ M a = some (.lst xs)
theorem tyLst_v {H : Hp} {M : Mp} {d : D} {v : V} (sr : SR C H M) (dn : Den C.X.K H M d v) (h : tyLst M d) : tyV C.X.K "list" v H := by
  obtain ⟨q, xs, rfl, hM⟩ := h
  simp only [Den] at dn
  subst dn
  obtain ⟨vs, hH, _⟩ := sr.abs q _ hM
  exact Or.inl ⟨rfl, vs, .inl (.inl hH)⟩
def rApp : DM := fun d ds M Q => match d, ds with
  | .ref a, [y] => (match M a with
    | some (.lst xs) => xs.length < sizeLine ∧ Q .non (put M a (.lst (xs ++ [y])))
    | _ => False)
  | _, _ => False
theorem rApp_some {d : D} {ds : List D} {M : Mp} {Q : DK} (h : rApp d ds M Q) : ∃ a y xs, d = .ref a ∧ ds = [y] ∧ M a = some (.lst xs) ∧ xs.length < sizeLine ∧ Q .non (put M a (.lst (xs ++ [y]))) := by
  unfold rApp at h
  split at h
  · split at h
    · rename_i hM; exact ⟨_, _, _, rfl, rfl, hM, h.1, h.2⟩
    · exact h.elim
  · exact h.elim
theorem mono_app : MonoM rApp := fun d ds M Q Q' h q => by
  obtain ⟨a, y, xs, rfl, rfl, hM, hz, q⟩ := rApp_some q
  simp only [rApp, hM]
  exact ⟨hz, h _ _ q⟩
theorem MtM.r {X : Cx} {id : String} {r : V → List V → Hp → VK → Prop} (h : MtM X id r) : MtR X id r := h
theorem mtd_app : MtD C tyLst rApp "list" rAppend := ⟨fun H M d v sr dn h => tyLst_v sr dn h, fun H M d v ds vs Q sr dn l h => by
  obtain ⟨q, y, xs, rfl, rfl, hM, hz, h⟩ := rApp_some h
  simp only [Den] at dn
  subst dn
  obtain ⟨w, rfl, dw⟩ := l.one
  obtain ⟨us, hH, lu⟩ := sr.abs q _ hM
  exact ⟨q, us, w, rfl, rfl, hH, by rw [lu.length]; exact hz, .non, _, write_lst sr hM (lu.append (.cons dw .nil)), by simp only [Den], h⟩⟩
/-- l.append(e) -/
theorem de_append (ho : DPE C o to) (ha : DPA C [e] t) (hbase : attributeBase o "append" C.X.env (eval o C.X.env) = eval o C.X.env := by rfl)
    (hfew : ((backTo cpos (starEach [e] C.X.env)).all (fun x => !x.1) && (backToKw cpos (keywordEach [] C.X.env)).all (fun x => x.1.isSome)
      && decide ([e].length + ([] : List Keyword).length + (if ([] : List Keyword).isEmpty then 0 else 1) < 30)) = true := by rfl)
    (hline : (apos.endLine == cpos.line) = true := by rfl) (hs : starEach [e] C.X.env = (false, eval e C.X.env) :: starEach [] C.X.env := by rfl) (hplain : (backTo cpos (starEach [] C.X.env)).any (·.1) = false := by rfl) :
    DPE C (.Call (.Attribute o "append" apos) [e] [] cpos) (dMeth tyLst rApp to t) := de_meth PySem.F.plainAttrs_list PySem.F.slot_list_append PySem.F.type_list_append (MtM.r mt_append) mtd_app mono_app ho ha hbase hfew hline hs hplain

/-! ### sorted -/
def dle : D → D → Bool := PySem.W.dataLe false pyT
def sortB (xs : List D) : Bool := (xs.all fun d => match d with
  | .tup (_ :: _) => true
  | _ => false) || xs.all fun d => match d with
  | .tup _ => false
  | .non => false
  | _ => true
def alikeB (xs : List D) : Bool := xs.all fun a => xs.all fun b => PySem.W.alike (pyT a) (pyT b)
def gSorted : OL := fun ds M => match ds with
  | [x] => (itemsL M x).bind fun xs => if (xs.all (shp 60) && alikeB xs && sortB xs) = true then some (.lst (xs.mergeSort dle)) else none
  | _ => none
theorem each_of {R : Value → D → Prop} : ∀ {ds : List D} {us : List Value}, us.length = ds.length → (∀ (i : Nat) (d : D) (u : Value), ds[i]? = some d → us[i]? = some u → R u d) → PySem.W.EachIs R us ds
  | [], [], _, _ => .nil
  | d :: ds, u :: us, hl, h => .cons (h 0 d u rfl rfl) (each_of (by simpa using hl) fun i d' u' h1 h2 => h (i + 1) d' u' (by simpa using h1) (by simpa using h2))
  | [], _ :: _, hl, _ => by simp at hl
  | _ :: _, [], hl, _ => by simp at hl
theorem each_out {K : PySem.W.Frag} {H : Hp} {M : Mp} : ∀ {ds : List D} {us : List Value}, PySem.W.EachIs (fun u d => ∃ v, RelV v u ∧ Den K H M d v) us ds → ∃ vs, Vals vs us ∧ DenL K H M ds vs
  | [], _, .nil => ⟨[], .nil, DenL.nil⟩
  | d :: ds, _, .cons ⟨v, r, dn⟩ h => by
    obtain ⟨vs, rv, l⟩ := each_out h
    exact ⟨v :: vs, .cons r rv, DenL.cons dn l⟩
theorem cl_sorted : DCl C (.builtin "sorted") gSorted := fun pins s σ H M xs us ds z I sr rv l ez => by
  match ds, l, ez with
  | [], _, ez => exact nomatch ez
  | _ :: _ :: _, _, ez => exact nomatch ez
  | [d], l, ez =>
    cases q : itemsL M d with
    | none => rw [show gSorted [d] M = (itemsL M d).bind _ from rfl, q] at ez; cases ez
    | some ys =>
      rw [show gSorted [d] M = (itemsL M d).bind _ from rfl, q, Option.bind_some] at ez
      split at ez <;> cases ez
      rename_i hB
      simp only [Bool.and_eq_true] at hB
      obtain ⟨⟨hsh, hal⟩, hso⟩ := hB
      obtain ⟨e1, e2⟩ := itemsL_of q
      obtain ⟨v, rfl, dn⟩ := l.one
      obtain ⟨q', vs, rfl, l, hl, hz, h⟩ := seq_v I sr dn e1
      rcases h with ⟨_, zs, h⟩ | ⟨h, _⟩
      · exact absurd h (e2 zs)
      · obtain ⟨its, r, pl, _⟩ := I.list h
        cases rv with
        | cons ru rn =>
          cases rn
          cases (show _ = Value.ref q' from ru)
          have hlen : its.length = ys.length := by rw [← r.length, hl]
          have sh := List.all_eq_true.mp hsh
          have both : ∀ (i : Nat) (d : D) (u : Value), ys[i]? = some d → its[i]? = some u → (∃ v, RelV v u ∧ Den C.X.K H M d v) := fun i d u h1 h2 => by
            obtain ⟨v, hv, dv⟩ := l.get h1
            obtain ⟨u', hu', ru⟩ := r.get hv
            rw [h2] at hu'; cases hu'
            exact ⟨v, ru, dv⟩
          refine PySem.W.sorted_data (enc := pyT) (R := fun u d => ∃ v, RelV v u ∧ Den C.X.K H M d v) (bs := ys) (vs := its) pl.isList (each_of hlen both) (each_of hlen fun i d u h1 h2 => ?_) ?_ ?_ hz (fun b hb => ?_) fun out ho hE => ?_
          · obtain ⟨v, ru, dv⟩ := both i d u h1 h2
            exact Dp.reads I (pyT d) v u (den_dp d ⟨60, sh d (List.mem_of_getElem? h1)⟩ dv) ru
          · intro d1 h1 d2 h2
            obtain ⟨a1, m1, rfl⟩ := List.mem_map.mp h1
            obtain ⟨a2, m2, rfl⟩ := List.mem_map.mp h2
            exact List.all_eq_true.mp (List.all_eq_true.mp hal a1 m1) a2 m2
          · unfold sortB at hso
            rcases Bool.or_eq_true_iff.mp hso with h' | h'
            · refine .inl fun d hd => ?_
              obtain ⟨a1, m1, rfl⟩ := List.mem_map.mp hd
              have := List.all_eq_true.mp h' a1 m1
              split at this
              · simp only [pyT, pyTs]; exact ⟨_, _, rfl⟩
              · cases this
            · refine .inr fun d hd => ?_
              obtain ⟨a1, m1, rfl⟩ := List.mem_map.mp hd
              have := List.all_eq_true.mp h' a1 m1
              have hs := sh a1 m1
              cases a1 <;> simp only [Bool.false_eq_true] at this <;> simp [pyT, shp] at hs ⊢
          · have h1 := (shp_shaped (sh b hb)).2
            have h2 := C.un
            omega
          · obtain ⟨ws, rw, lw⟩ := each_out hE
            have hws : ws.length ≤ sizeLine := by rw [lw.length, List.length_mergeSort]; exact hz
            obtain ⟨c, hc⟩ := sortedAll_at s.heap its out.toArray
            have hp : H (s.heap.objs.size + 1) = none := I.hok.fresh (Nat.le_succ _)
            obtain ⟨g, dz⟩ := new_lst (xs := ws) sr hp lw
            exact ⟨.ref (s.heap.objs.size + 1), _, .lst (ys.mergeSort dle), M, I.laid (a := s.heap.objs.size + 1) (o := .lst ws) (t' := s.toks) (fun b u e => sortedAll_old e) (Nat.le_succ _) ⟨hws, out, c, rw, hc⟩, rfl, g, dz, rfl, rfl⟩

/-! ### repr -/
def rprOk (p : PyData) : Bool := p.showable && decide (p.shown.length ≤ sizeLine)
def gRepr : OL := fun ds M => match ds with
  | [x] => (match deref M x with
    | .tup xs => if (shp 64 (.tup xs) && rprOk (pyT (.tup xs))) = true then some (.str (pyT (.tup xs)).shown) else none
    | .lst xs => if (shp 64 (.lst xs) && rprOk (pyT (.lst xs))) = true then some (.str (pyT (.lst xs)).shown) else none
    | _ => none)
  | _ => none
theorem noDict_of : ∀ {n : Nat} {d : D}, shp n d = true → (pyT d).hasDict = false := fun {n d} h => PyData.hasDict_of_canLay _ (shp_shaped h).1
theorem cl_repr : DCl C (.builtin "repr") gRepr := fun pins s σ H M xs us ds z I sr rv l ez => by
  match ds, l, ez with
  | [], _, ez => exact nomatch ez
  | _ :: _ :: _, _, ez => exact nomatch ez
  | [d], l, ez =>
    obtain ⟨v, rfl, dn⟩ := l.one
    have key : ∀ d', deref M d = d' → shp 64 d' = true → rprOk (pyT d') = true → (∃ q, v = .ref q) → z = .str (pyT d').shown → wpAny (model C.X.prog C.X.w) C.X.A (call (.builtin "repr") us) (EPD C pins σ H M fun z' M' => z' = z ∧ M' = M) C.X.xe s := fun d' hd sh ro ⟨q, hq⟩ hz => by
      subst hd; subst hz
      have dp := deref_dp sr.abs sh dn
      subst hq
      cases rv with
      | cons ru rn =>
        cases rn
        cases (show _ = Value.ref q from ru)
        obtain ⟨as, rd⟩ := Dp.reads I _ _ _ dp ru
        simp only [rprOk, Bool.and_eq_true, decide_eq_true_eq] at ro
        have h1 := (shp_shaped sh).2
        have h2 := C.un64
        refine repr_of_reads' rd ro.1 (PyData.noDict_hsm (noDict_of sh)) C.gd (by omega) (fun _ _ e => e) (fun h' u tk hk => ?_) ro.2
        exact ⟨.str _, H, .str _, M, I.kept (t' := tk) hk, ⟨_, rfl⟩, Go.refl sr, by simp only [Den], rfl, rfl⟩
    have isref : ∀ d', deref M d = d' → (∃ xs, d' = .tup xs ∨ d' = .lst xs) → ∃ q, v = .ref q := fun d' hd hx => by
      obtain ⟨xs, hx⟩ := hx
      cases d <;> simp only [deref] at hd <;> simp only [Den] at dn
      case tup => obtain ⟨q, _, e, _⟩ := dn; exact ⟨q, e⟩
      case lst => obtain ⟨q, _, e, _⟩ := dn; exact ⟨q, e⟩
      case ref q => exact ⟨q, dn⟩
      all_goals (subst hd; rcases hx with hx | hx <;> cases hx)
    simp only [gRepr] at ez
    split at ez
    · split at ez <;> cases ez
      rename_i xs hd h
      simp only [Bool.and_eq_true] at h
      exact key _ hd h.1 h.2 (isref _ hd ⟨_, .inl rfl⟩) rfl
    · split at ez <;> cases ez
      rename_i xs hd h
      simp only [Bool.and_eq_true] at h
      exact key _ hd h.1 h.2 (isref _ hd ⟨_, .inr rfl⟩) rfl
    · cases ez
end
end DL

/-! sorted(set(..)) of tuples of ints. -/
namespace DL
open PySem PySem.Spec PyProof.Rows L2
def tupI (k : List Int) : D := .tup (k.map D.int)
def dSortedSet (B : Int) (te : DE) : DE := fun τ M Q E => te τ M (fun d M1 => ok1 (itemsL M1 d) fun xs => ∃ ks : List (List Int), xs = ks.map tupI ∧ ks.length < 64 ∧ (∃ n, 1 ≤ n ∧ ∀ k ∈ ks, k.length = n ∧ TS.Bd B k) ∧
  ∀ L : List (List Int), L.Nodup → L.Pairwise (fun q r => TS.code B q ≤ TS.code B r) → (∀ k, k ∈ L ↔ k ∈ ks) → Q (.lst (L.map tupI)) M1) E
theorem mono_sortedSet {B : Int} {te : DE} (m : MonoE te) : MonoE (dSortedSet B te) := fun τ M Q Q' E E' h he q =>
  m τ M _ _ _ _ (fun d M1 => ok1_mono fun xs ⟨ks, a, b, c, k⟩ => ⟨ks, a, b, c, fun L h1 h2 h3 => h _ _ (k L h1 h2 h3)⟩) he q
section
variable {C : DC} {e : Expr} {p p2 q2 pos pos2 : Pos} {te : DE}
theorem den_ints {K : PySem.W.Frag} {H : Hp} {M : Mp} : ∀ {k : List Int} {vs : List V}, DenL K H M (k.map D.int) vs → vs = k.map V.int
  | [], _, h => by simpa only [List.map_nil, DenL] using h
  | n :: k, _, h => by
    simp only [List.map_cons, DenL] at h
    obtain ⟨v, r, rfl, dn, l⟩ := h
    simp only [Den] at dn
    rw [den_ints l, dn]
    rfl
theorem ints_den {K : PySem.W.Frag} {H : Hp} {M : Mp} : ∀ (k : List Int), DenL K H M (k.map D.int) (k.map V.int)
  | [] => DenL.nil
  | n :: k => DenL.cons (by simp only [Den]) (ints_den k)
/-- where the tuples stand -/
theorem den_tups {K : PySem.W.Frag} {H : Hp} {M : Mp} : ∀ {ks : List (List Int)} {vs : List V}, DenL K H M (ks.map tupI) vs → ∃ ps : List (Addr × List Int), ps.map (·.2) = ks ∧ vs = ps.map (fun q => V.ref q.1) ∧ ∀ q ∈ ps, TpAt K H M q.1 (q.2.map V.int)
  | [], _, h => ⟨[], rfl, by simpa only [List.map_nil, DenL] using h, fun _ z => nomatch z⟩
  | k :: ks, _, h => by
    simp only [List.map_cons, DenL] at h
    obtain ⟨v, r, rfl, dn, l⟩ := h
    obtain ⟨ps, e1, e2, h3⟩ := den_tups l
    simp only [tupI, Den] at dn
    obtain ⟨a, vs, rfl, t, l'⟩ := dn
    have := den_ints l'
    subst this
    refine ⟨(a, k) :: ps, by simp [e1], by simp [e2], fun q hq => ?_⟩
    rcases List.mem_cons.mp hq with rfl | hq
    · exact t
    · exact h3 q hq
theorem tups_den {K : PySem.W.Frag} {H : Hp} {M : Mp} : ∀ (ps : List (Addr × List Int)), (∀ q ∈ ps, TpAt K H M q.1 (q.2.map V.int)) → DenL K H M (ps.map fun q => tupI q.2) (ps.map fun q => V.ref q.1)
  | [], _ => DenL.nil
  | q :: ps, h => DenL.cons (by simp only [tupI, Den]; exact ⟨q.1, _, rfl, h q List.mem_cons_self, ints_den q.2⟩) (tups_den ps fun r hr => h r (List.mem_cons_of_mem _ hr))
theorem de_sortedSet (B : Int) (hc : C.X.calm = true) (hg : Gl C.X "sorted") (hm : C.X.mg "sorted" = none) (hg2 : Gl C.X "set") (hm2 : C.X.mg "set" = none) (he : DPE C e te)
    (hs2 : starEach [e] C.X.env = (false, eval e C.X.env) :: starEach [] C.X.env := by rfl) (hpl2 : (backTo pos2 (starEach [] C.X.env)).any (·.1) = false := by rfl)
    (hs : starEach [.Call (.Name "set" p2) [e] [] pos2] C.X.env = (false, eval (.Call (.Name "set" p2) [e] [] pos2) C.X.env) :: starEach [] C.X.env := by rfl) (hpl : (backTo pos (starEach [] C.X.env)).any (·.1) = false := by rfl) :
    DPE C (.Call (.Name "sorted" p) [.Call (.Name "set" p2) [e] [] pos2] [] pos) (dSortedSet B te) := by
  refine .of (mono_sortedSet he.mono) (pe_callB (cr_sortedT hc) hg hm (by decide +kernel) (pa_cons (pe_callTy (cr_setOfT hc (by have := C.un64; omega)) hg2 hm2 (by decide +kernel) (pa_cons he.pe pa_nil hs2) (by decide) (by decide) hs2 hpl2) pa_nil hs) (by decide) (by decide) hs hpl) fun σ H Q ⟨τ, M, er, sr, q⟩ => ?_
  refine ⟨τ, M, er, sr, he.mono _ _ _ _ _ _ (fun d M1 z v H1 g1 dn => ?_) (fun _ _ _ z => z) q⟩
  obtain ⟨xs, ex, ks, rfl, h64, ⟨n, hn, hB⟩, k⟩ := ok1_ex z
  obtain ⟨e1, e2⟩ := itemsL_of ex
  obtain ⟨l, vs, rfl, dl, hs⟩ := seq_of (sr.go g1).abs dn e1
  obtain ⟨ps, rfl, rfl, hps⟩ := den_tups dl
  rcases hs with ⟨⟨zs, z⟩, _⟩ | ⟨_, hl, _⟩
  · exact absurd z (e2 zs)
  · refine ⟨l, ps, rfl, hl, fun q hq => (hps q hq).sq, by simpa using h64, fun a L hna hL1 hL2 => ?_⟩
    have sr1 := sr.go g1
    have g2 : Go C H1 M1 (upd H1 a (SetTO C.X.prog C.X.w a L)) M1 := Go.new sr1 hna fun ps z => by unfold SetTO at z; cases z
    refine ⟨a, L, n, B, rfl, upd_same, fun q hq => ((hps q (hL1 q hq)).keep g2.keep).sq, hn, fun q hq => hB q.2 (List.mem_map.mpr ⟨q, hL1 q hq, rfl⟩), fun L' p2 pm nd hf pw hnp => ?_⟩
    have sr2 := sr1.go g2
    have mem : ∀ q ∈ L', q ∈ ps := fun q hq => hL1 q (pm.mem_iff.mp hq)
    have dd := tups_den (K := C.X.K) (H := upd H1 a (SetTO C.X.prog C.X.w a L)) (M := M1) L' fun q hq => (hps q (mem q hq)).keep g2.keep
    obtain ⟨g3, dz⟩ := new_lst sr2 hnp dd
    have eM : (L'.map fun q => tupI q.2) = (L'.map (·.2)).map tupI := by rw [List.map_map]; rfl
    rw [eM] at dz
    refine k (L'.map (·.2)) nd (List.pairwise_map.mpr pw) (fun kk => ⟨fun h => ?_, fun h => ?_⟩) _ _ ((g1.trans g2).trans g3) dz
    · obtain ⟨q, hq, rfl⟩ := List.mem_map.mp h
      exact List.mem_map.mpr ⟨q, mem q hq, rfl⟩
    · obtain ⟨q, hq, rfl⟩ := List.mem_map.mp h
      obtain ⟨q', hq', e⟩ := List.mem_map.mp (hL2 q hq)
      exact List.mem_map.mpr ⟨q', pm.mem_iff.mpr hq', e⟩
end
end DL

/-! The end of a law row, over data. -/
namespace DL
open PySem PySem.Spec PyProof.Rows L2
/-! ### defs by name -/
/-- a def that stands at the module's name x -/
def DefAt (K : PySem.W.Frag) (mg : Str → Option Value) (x : Str) (st : Stmt) : Prop := ∃ f fd, Fun K x x st f fd ∧ mg x = some (.ref f)
structure FnX (P : Program) (w : World) (K : PySem.W.Frag) (mg : Str → Option Value) (base : Heap) (T : List (Addr × Str)) (k : Nat) (x : Str) (ps : List Str) (sp : DSp) : Prop where
  ex : ∃ f fd, FnG P w K mg base T k f fd ps sp ∧ mg x = some (.ref f) ∧ PySem.W.keepIn K (.ref f) = true ∧ Binds K fd ps []
/-- how a def's arguments bind -/
def BindN (x : Str) (st : Stmt) (ps : List Str) : Prop := ∀ (kV doc pm : Value) (an : Option Addr) (cdv ct : Value) (us : List Value), us.length = ps.length → bindArgs (PySem.W.fnOf x x (defArgs st) (defBody st) (defScope st) .none kV doc pm an cdv ct) ⟨us, []⟩ = pure (ps.zip us)
section
variable {P : Program} {w : World} {K : PySem.W.Frag} {mg : Str → Option Value} {base : Heap} {T : List (Addr × Str)}
theorem fnx_of {x : Str} {st : Stmt} {N ps : List Str} {k : Nat} {sp : DSp} {t : DS} (A : DefAt K mg x st) (S : FnScope N ps (defScope st)) (hb : BindN x st ps) (len : ∀ ds M Q E, sp ds M Q E → ds.length = ps.length) (mono : MonoP sp)
    (hbody : ∀ (f : Addr) (cdv : Value) (A : Around) (outer : List Env) (s : Shared) (H : Hp) (M : Mp) (E : DX) (hr : Room k (A.deeper (envOfC x (defScope st) s.heap.objs.size f cdv))) (hg : A.guards = some []),
      DPSs (ctxOf P w K mg base T k N x (defScope st) f cdv A outer s H M E hr hg S.nd) (defBody st) t)
    (hsp : ∀ (ds : List D) (M : Mp) (Q : DK) (E : DX), sp ds M Q E → t (endF Q E) (startD N ds) M) : FnX P w K mg base T (k + 1) x ps sp := by
  obtain ⟨f, fd, F, e⟩ := A
  exact ⟨f, fd, fng_of F S len mono (hbody f) hsp, e, F.kp, F.binds hb⟩
end
section
variable {C : DC} {e : Expr} {es : List Expr} {x : Str} {p pos : Pos} {ps : List Str} {sp : DSp} {k : Nat} {t : DA}
theorem de_callX (F : FnX C.X.prog C.X.w C.X.K C.X.mg C.X.base C.T k x ps sp) (hk : k ≤ C.lv) (hc : C.X.calm = true) (hg : Gl C.X x) (ha : DPA C (e :: es) t) (hdb : (x == ("__debug__" : Str)) = false := by decide)
    (he : starEach (e :: es) C.X.env = (false, eval e C.X.env) :: starEach es C.X.env := by rfl) (hpl : (backTo pos (starEach es C.X.env)).any (·.1) = false := by rfl) : DPE C (.Call (.Name x p) (e :: es) [] pos) (dCall sp t) := by
  obtain ⟨f, fd, G, hm, hp, hb⟩ := F.ex
  exact de_call G hk hc hg hm hp hb ha hdb he hpl
theorem de_callX0 (F : FnX C.X.prog C.X.w C.X.K C.X.mg C.X.base C.T k x ps sp) (hk : k ≤ C.lv) (hc : C.X.calm = true) (hg : Gl C.X x) (hdb : (x == ("__debug__" : Str)) = false := by decide) : DPE C (.Call (.Name x p) [] [] pos) (dCall sp dNil) := by
  obtain ⟨f, fd, G, hm, hp, hb⟩ := F.ex
  exact de_call0 G hk hc hg hm hp hb hdb
end
theorem FnX.up {P : Program} {w : World} {K : PySem.W.Frag} {mg : Str → Option Value} {base : Heap} {T : List (Addr × Str)} {k k' : Nat} {x : Str} {ps : List Str} {sp : DSp} (F : FnX P w K mg base T k x ps sp) (h : Nat.ble k k' = true := by rfl) : FnX P w K mg base T k' x ps sp := by
  obtain ⟨f, fd, G, r⟩ := F.ex
  exact ⟨f, fd, ⟨G.len, G.mono, fun A outer s H M args us vs ds Q E hr => G.run A outer s H M args us vs ds Q E (hr.mono (Nat.le_of_ble_eq_true h))⟩, r⟩
def tb0 : Obj := { cls := .none, data := .fields #[] }
/-- what the caller knows of the heap at the law's call: script at a, tables cs -/
structure At0 (K : PySem.W.Frag) (mg mb : Str → Option Value) (cs : List (Addr × Addr)) (a : Addr) (vs : List Value) (h : Heap) : Prop where
  kin : K.In h
  g : h.Ns mainGlobals mg
  b : h.Ns builtinsNs mb
  bb : ∀ x : Str, x ≠ "__name__" → mb x = bootBuiltins x
  lim : h.NoLimit
  tb : ∀ p ∈ cs, h.get? p.2 = some tb0
  nk : ∀ p ∈ cs, K.lookup p.2 = none
  hd : ∀ p ∈ cs, PySem.W.CodeHd h p.1 p.2
  bm : ∃ (bm : Addr) (ob : Obj), mg "__builtins__" = some (.ref bm) ∧ bm ≠ builtinsNs ∧ h.get? bm = some ob ∧ ob.cls = .type "module" ∧ ob.dict = some builtinsNs ∧ ob.data = .plain
  sc : h.get? a = some { cls := .type "list", data := .seq vs.toArray }
/-- the abstract heap at the law's call -/
structure Trk (cs : List (Addr × Addr)) (a : Addr) (H : Hp) : Prop where
  tbl : ∀ p ∈ cs, H p.2 = some (.tbl #[])
  only : ∀ b, H b = none ∨ b ∈ cs.map (·.2) ∨ ∃ o xs, H b = some (.frz o (.lst xs))
  who : ∀ b, H b ≠ none → b = a ∨ b ∈ cs.map (·.2)
section
variable {P : Program} {w : World} {K : PySem.W.Frag} {mg mb : Str → Option Value} {cs : List (Addr × Addr)} {a : Addr} {vs : List Value} {s₁ : Shared} {H : Hp}
theorem At0.tab_of (z : At0 K mg mb cs a vs s₁.heap) {b : Addr} (hb : b ∈ cs.map (·.2)) : s₁.heap.get? b = some tb0 ∧ K.lookup b = none := by
  obtain ⟨p, hp, e⟩ := List.mem_map.mp hb
  rw [← e]; exact ⟨z.tb p hp, z.nk p hp⟩
theorem At0.a_no (z : At0 K mg mb cs a vs s₁.heap) : a ∉ cs.map (·.2) := fun q => by
  have e := (z.tab_of q).1
  rw [z.sc] at e
  exact nomatch (congrArg Obj.data (Option.some.inj e) : Data.seq vs.toArray _ = Data.fields #[])
/-- an object that is neither a list nor an empty table is not told of -/
theorem At0.hidden (z : At0 K mg mb cs a vs s₁.heap) (t : Trk cs a H) {b : Addr} {o : Obj} (e : s₁.heap.get? b = some o) (h1 : ∀ us n, o.data ≠ .seq us n) (h2 : o.data ≠ .fields #[]) : (hidT s₁.heap H).get? b = some o :=
  hidT_get e (by
    cases q : H b with
    | none => rfl
    | some u =>
      rcases t.who b (by rw [q]; simp) with hb | hb
      · rw [hb, z.sc] at e; cases e; exact absurd rfl (h1 _ _)
      · rw [(z.tab_of hb).1] at e; cases e; exact absurd rfl h2)
theorem At0.ns (z : At0 K mg mb cs a vs s₁.heap) (t : Trk cs a H) {b : Addr} {m : Str → Option Value} (n : s₁.heap.Ns b m) : (hidT s₁.heap H).Ns b m :=
  let ⟨o, es, ep, e, d, r⟩ := n
  ⟨o, es, ep, z.hidden t e (fun _ _ q => by rw [d] at q; cases q) (fun q => by rw [d] at q; cases q), d, r⟩
theorem At0.inK (z : At0 K mg mb cs a vs s₁.heap) (t : Trk cs a H) (hK : H a ≠ none → K.lookup a = none) : K.In (hidT s₁.heap H) := fun b o e => hidT_get (z.kin b o e) (by
  cases q : H b with
  | none => rfl
  | some u =>
    have nn : H b ≠ none := by rw [q]; simp
    rcases t.who b nn with hb | hb
    · rw [hb] at e nn
      rw [hK nn] at e; cases e
    · rw [(z.tab_of hb).2] at e; cases e)
theorem At0.tabB (z : At0 K mg mb cs a vs s₁.heap) (t : Trk cs a H) (p : Addr × Addr) (hp : p ∈ cs) : LamX.TabB (hidT s₁.heap H) mg p.1 p.2 := by
  refine ⟨?_, ?_, fun q => ?_⟩
  · obtain ⟨o, us, file, tf, flags, tg, inF, text, tt, e1, r1, r2, r3, r⟩ := z.hd p hp
    refine ⟨o, us, file, tf, flags, tg, inF, text, tt, z.hidden t e1 (fun _ _ q => by rw [r2] at q; cases q) (fun q => ?_), r1, r2, r3, r⟩
    rw [r2] at q
    cases q
    simp at r3
  · obtain ⟨bm, ob, b1, b2, b3, b4, b5, b6⟩ := z.bm
    refine ⟨bm, ob, b1, b2, fun q => ?_, fun q => ?_, z.hidden t b3 (fun _ _ q => by rw [b6] at q; cases q) (fun q => by rw [b6] at q; cases q), b4, b5, b6⟩
    · obtain ⟨o, es, ep, e, d, _⟩ := z.g
      rw [q, e] at b3
      cases b3
      rw [d] at b6
      cases b6
    · rw [q, z.tb p hp] at b3
      cases b3
      cases b6
  · obtain ⟨o, es, ep, e, d, _⟩ := z.g
    rw [q, z.tb p hp] at e
    cases e
    cases d
theorem law_core {T : List (Addr × Str)} {k : Nat} {fa : Addr} {x xl : Str} {sp : DSp} {ns : List Int} (z : At0 K mg mb cs a vs s₁.heap) (hg : s₁.gens = #[]) (hr : Room k callerA) (hT : ∀ q ∈ T, ∃ p ∈ cs, q.1 = p.2)
    (hfa : mg xl = some (.ref fa)) (F : ∀ base : Heap, K.In base → base.Ns mainGlobals mg → (∀ p ∈ cs, LamX.TabB base mg p.1 p.2) → FnX P w K mg base T k xl [x] sp)
    (hsp : sp [.scr (ns.map D.int)] (fun _ => none) (fun d _ => d = .bl true) fun _ _ _ => False)
    (t : Trk cs a H) (hS : SqL K H a (ns.map V.int)) (hok : HOk P w H s₁.heap) (hK : H a ≠ none → K.lookup a = none) :
    codeAny (model P w) callerA (.call (.ref fa) ⟨[.ref a], []⟩) (fun r s' => r = .ok (.ret (.bool true)) ∧ OldK s₁.heap s'.heap ∧ s'.os = s₁.os ∧ AllBare s'.gens) s₁ := by
  have kb := z.inK t hK
  have nb := z.ns t z.g
  have e0 : Env0 P w K mg (hidT s₁.heap H) callerA [] s₁ H := ⟨rfl, ⟨kb, nb, ⟨mb, z.ns t z.b, z.bb⟩, let ⟨mc, h1, h2⟩ := z.lim; ⟨mc, z.ns t h1, h2⟩⟩, fun b o e => of_hidT e, Nat.le_of_eq (hidT_size _ _), trivial, fun b hb => absurd (show b ∈ ([] : List Addr) from hb) (by simp), hok, .of_eq hg⟩
  have dl : ∀ l : List Int, DenL K H (fun _ => none) (l.map D.int) (l.map V.int) := fun l => by
    induction l with
    | nil => exact DenL.nil
    | cons i r ih => exact DenL.cons (by simp only [Den]) ih
  have dn : DenL K H (fun _ => none) [.scr (ns.map D.int)] [.ref a] := DenL.cons (by
    simp only [Den]
    exact ⟨a, ns.map V.int, rfl, hS.elim (fun h => .inl ⟨rfl, h⟩) .inr, dl ns⟩) DenL.nil
  have tb : LamX.Tabs T H := fun q hq => by
    obtain ⟨p, hp, e⟩ := hT q hq
    rw [e]
    exact LamX.TabS.nil (t.tbl p hp)
  obtain ⟨f, fd, FF, hmf, _, hb⟩ := (F _ kb nb (z.tabB t)).ex
  obtain rfl : f = fa := Value.ref.inj (Option.some.inj (hmf.symm.trans hfa))
  have hbind : BindsTo s₁ fd ⟨[.ref a], []⟩ [(x, .ref a)] := hb s₁ [.ref a] z.kin rfl
  refine codeAny_mono (FF.run callerA [] s₁ H (fun _ => none) ⟨[.ref a], []⟩ [.ref a] [.ref a] _ _ _ hr rfl e0 hbind (.cons rfl .nil) dn (fun _ _ e => nomatch e) tb hsp) fun r s' h => ?_
  cases r with
  | error e =>
    obtain ⟨_, _, _, _, _, _, _, _, _, _, _, _, _, _, _, _, no⟩ := h
    exact no.elim
  | ok fl =>
    cases fl with
    | next => exact False.elim h
    | brk => exact False.elim h
    | cont => exact False.elim h
    | ret u =>
      obtain ⟨v, H', os, bare, un, hok', r', d, M', _, dd, rfl⟩ := h
      simp only [Den] at dd
      subst dd
      obtain rfl : u = Value.bool true := r'
      have key : ∀ b o, b ∉ cs.map (·.2) → s₁.heap.get? b = some o → s'.heap.get? b = some o := fun b o nb e => by
        cases q : H b with
        | none => exact un.keep b o e q (by intro z; exact absurd (show b ∈ ([] : List Addr) from z) (by simp)) (by simp)
        | some u =>
          rcases t.only b with y | y | ⟨ob, xs, y⟩
          · rw [q] at y; cases y
          · exact absurd y nb
          · obtain ⟨e1, _⟩ := hok b _ y
            obtain ⟨e2, _⟩ := hok' b _ (un.frzs b ob _ y)
            rw [e] at e1; cases e1
            exact e2
      refine ⟨rfl, ⟨fun b o e => ?_, fun b o e => ?_⟩, os, bare⟩
      · by_cases hb : b ∈ cs.map (·.2)
        · obtain ⟨p, hp, ep⟩ := List.mem_map.mp hb
          obtain ⟨more, y⟩ := un.tbls p.2 #[] (t.tbl p hp)
          have hm := hok' p.2 _ y
          rw [← ep] at e ⊢
          rw [z.tb p hp] at e
          cases e
          exact .inr (.inl ⟨((z.hd p hp).tab (z.tb p hp)).isCodeTable, rfl, #[], more, rfl, by rw [Array.empty_append] at hm ⊢; exact hm⟩)
        · exact .inl (key b o hb e)
      · by_cases hb : b ∈ cs.map (·.2)
        · obtain ⟨p, hp, ep⟩ := List.mem_map.mp hb
          obtain ⟨more, y⟩ := un.tbls p.2 #[] (t.tbl p hp)
          rw [← ep]
          exact ⟨_, hok' p.2 _ y⟩
        · exact ⟨o, key b o hb e⟩
def trk0 (cs : List (Addr × Addr)) : Hp := fun b => if b ∈ cs.map (·.2) then some (.tbl #[]) else none
def trk1 (cs : List (Addr × Addr)) (a : Addr) (vs : List Value) (ns : List Int) : Hp := fun b => if b = a then some (.frz { cls := .type "list", data := .seq vs.toArray } (.lst (ns.map V.int))) else trk0 cs b
theorem law_callG {T : List (Addr × Str)} {k : Nat} {fa : Addr} {x xl : Str} {sp : DSp} {ns : List Int} (z : At0 K mg mb cs a vs s₁.heap) (hg : s₁.gens = #[]) (hr : Room k callerA) (hT : ∀ q ∈ T, ∃ p ∈ cs, q.1 = p.2) (hi : IntsAre vs ns) (hl : ns.length ≤ sizeLine)
    (hfa : mg xl = some (.ref fa)) (F : ∀ base : Heap, K.In base → base.Ns mainGlobals mg → (∀ p ∈ cs, LamX.TabB base mg p.1 p.2) → FnX P w K mg base T k xl [x] sp)
    (hsp : sp [.scr (ns.map D.int)] (fun _ => none) (fun d _ => d = .bl true) fun _ _ _ => False) :
    codeAny (model P w) callerA (.call (.ref fa) ⟨[.ref a], []⟩) (fun r s' => r = .ok (.ret (.bool true)) ∧ OldK s₁.heap s'.heap ∧ s'.os = s₁.os ∧ AllBare s'.gens) s₁ := by
  have rv := vals_ints hi
  have lenV := hi.length
  have memT : ∀ p ∈ cs, p.2 ∈ cs.map (·.2) := fun p hp => List.mem_map.mpr ⟨p, hp, rfl⟩
  have t0 : ∀ b, trk0 cs b ≠ none → b ∈ cs.map (·.2) := fun b h => Decidable.by_contra fun n => h (if_neg n)
  have ok0 : ∀ b u, trk0 cs b = some u → ObjOk P w (trk0 cs) s₁.heap b u → True := fun _ _ _ _ => trivial
  cases hk : K.lookup a with
  | some o =>
    have e := z.kin a o hk
    rw [z.sc] at e
    cases e
    refine law_core (H := trk0 cs) (ns := ns) z hg hr hT hfa F hsp ⟨fun p hp => if_pos (memT p hp), fun b => ?_, fun b h => .inr (t0 b h)⟩ (.inr ⟨_, vs.toArray, _, hk, rfl, rfl, rfl, by rw [List.size_toArray, lenV]; exact hl, by simpa using rv⟩) (fun b u q => ?_) fun h => absurd (t0 a h) z.a_no
    · by_cases hb : b ∈ cs.map (·.2)
      · exact .inr (.inl hb)
      · exact .inl (if_neg hb)
    · have hb := t0 b (by rw [q]; simp)
      have q' := (if_pos hb).symm.trans q
      cases q'
      exact (z.tab_of hb).1
  | none =>
    refine law_core (H := trk1 cs a vs ns) (ns := ns) z hg hr hT hfa F hsp ⟨fun p hp => ?_, fun b => ?_, fun b h => ?_⟩ (.inl (.inr ⟨{ cls := .type "list", data := .seq vs.toArray }, if_pos rfl⟩)) (fun b u q => ?_) fun _ => hk
    · exact (if_neg (show ¬ p.2 = a from fun y => z.a_no (y ▸ memT p hp))).trans (if_pos (memT p hp))
    · by_cases hb : b = a
      · exact .inr (.inr ⟨_, _, if_pos hb⟩)
      · by_cases hb2 : b ∈ cs.map (·.2)
        · exact .inr (.inl hb2)
        · exact .inl ((if_neg hb).trans (if_neg hb2))
    · by_cases hb : b = a
      · exact .inl hb
      · exact .inr (t0 b fun y => h ((if_neg hb).trans y))
    · by_cases hb : b = a
      · have q' := (if_pos hb).symm.trans q
        cases q'
        rw [hb]
        exact ⟨z.sc, by rw [List.length_map]; exact hl, vs, _, rv, z.sc⟩
      · have q1 := (if_neg hb).symm.trans q
        have hb2 := t0 b (by rw [q1]; simp)
        have q' := (if_pos hb2).symm.trans q1
        cases q'
        exact (z.tab_of hb2).1
end
/-- what is known of the law's promise at the head's heap -/
def LawG (l : PySem.W.OpenLaw) (w : World) (K : PySem.W.Frag) (k n : Nat) (x xl : Str) (mg : Str → Option Value) (fa : Addr) (h : Heap) : Prop :=
  mg xl = some (.ref fa) ∧ ∃ (cs : List (Addr × Addr)) (T : List (Addr × Str)) (sp : DSp), (∀ p ∈ cs, h.get? p.2 = some tb0) ∧ (∀ p ∈ cs, K.lookup p.2 = none) ∧ (∀ p ∈ cs, PySem.W.CodeHd h p.1 p.2) ∧ (∀ q ∈ T, ∃ p ∈ cs, q.1 = p.2) ∧
    (∀ ns : List Int, ns.length ≤ n → (∀ z ∈ ns, Builtin.Int.intBits z ≤ 1048576) → sp [.scr (ns.map D.int)] (fun _ => none) (fun d _ => d = .bl true) fun _ _ _ => False) ∧
    ∀ base : Heap, K.In base → base.Ns mainGlobals mg → (∀ p ∈ cs, LamX.TabB base mg p.1 p.2) → FnX l.prog w K mg base T k xl [x] sp
theorem fun_of {K : PySem.W.Frag} {x qual : Str} {st : Stmt} {f : Addr} {fd : FuncData} (F : FunD K x qual (defArgs st) (defBody st) (defScope st) [] [] f fd) : Fun K x qual st f fd := by
  obtain ⟨oc, od, dV, kV, doc, pm, an, cdv, ct, osl, e, lk, hcd, dv, _⟩ := F.ex
  rcases dv with ⟨_, rfl⟩ | ⟨n, _⟩
  · exact ⟨⟨oc, od, kV, doc, pm, an, cdv, ct, osl, e, lk, hcd⟩, F.kp⟩
  · exact absurd rfl n
theorem walk_ofG {l : PySem.W.OpenLaw} {n k : Nat} {q : Program} {loose : List Str} {XP : (Str → Option Value) → Heap → Prop} {YP : World → Heap → Prop} {d : DefRec} {x xl : Str}
    (hn : l.most = some n) (hn2 : n ≤ sizeLine) (hdf : d.params.defaults = []) (hr : Room k callerA)
    (F : ∀ (w : World) (mg : Str → Option Value) (fa : Addr) (h : Heap), YP w h → h.Ns mainGlobals mg → mg d.name = some (.ref fa) → ∃ K : PySem.W.Frag, K.In h ∧ LawG l w K k n x xl mg fa h) :
    PySem.W.WalkO q loose XP YP l.row.toRowW d [] (fun f vs => PySem.call f vs) := by
  refine Att.attach_callB hn hdf fun w s₀ s₁ mg mb fa o pm cd doc a vs ns G Y ho hd hcd hmg hobj hints hlen hbits hg => ?_
  obtain ⟨K, kx, hfa, cs, T, sp, hT, nT, hC, hTs, hsp, hF⟩ := F w mg fa _ Y G.T.g hmg
  exact law_callG (cs := cs) ⟨kx, G.T.g, G.T.b, G.T.builtins, G.T.nolimit, hT, nT, hC, G.T.bmain, hobj⟩ hg hr hTs hints (Nat.le_trans hlen hn2) hfa hF (hsp ns hlen hbits)
/-! ### the promises -/
/-- a def that changes nothing: its value by its arguments -/
def pureP (n : Nat) (g : List D → Option D) : DSp := fun ds M Q _ => ds.length = n ∧ ok1 (g ds) fun r => Q r M
theorem len_pure {n : Nat} {g : List D → Option D} {ps : List Str} (h : ps.length = n := by rfl) : ∀ ds M Q E, pureP n g ds M Q E → ds.length = ps.length := fun ds M Q E q => by rw [h]; exact q.1
theorem mono_pure {n : Nat} {g : List D → Option D} : MonoP (pureP n g) := fun ds M Q Q' E E' h _ q => ⟨q.1, ok1_mono (fun r => h r M) q.2⟩
theorem endF_rt {Q : DK} {E : DX} {d : D} {M : Mp} (q : Q d M) : (endF Q E).rt d M := ⟨d, M, Cv.refl, q⟩
theorem endF_fix {Q : DK} {E : DX} {p : Addr} {xs : List D} {M : Mp} (h : M p = some (.lst xs)) (q : Q (.lst xs) (del M p)) : (endF Q E).rt (.ref p) M := ⟨_, _, Cv.fix h, q⟩
/-! ### loops by an invariant -/
theorem forT_ind {ok : Mp → Prop} {g : DG} {tb : DS} {En : DEnds} {ds : List D} (I : List D → List D → Sd → Mp → Prop)
    (step : ∀ pre x post τ M, pre ++ x :: post = ds → I pre (x :: post) τ M → ok M ∧ g x τ M fun τ1 M1 => tb { En with nx := I (pre ++ [x]) post, ct := I (pre ++ [x]) post, bk := En.nx } τ1 M1)
    (fin : ∀ τ M, I ds [] τ M → ok M ∧ En.nx τ M) (mg : MonoG g) (mb : MonoS tb) : ∀ (rest pre : List D) (τ : Sd) (M : Mp), pre ++ rest = ds → I pre rest τ M → forT ok g tb En rest τ M
  | [], pre, τ, M, e, h => by
    rw [List.append_nil] at e
    subst e
    exact fin τ M h
  | x :: post, pre, τ, M, e, h => by
    obtain ⟨h1, h2⟩ := step pre x post τ M e h
    have e' : pre ++ [x] ++ post = ds := by simpa using e
    have turns := fun τ' M' => forT_ind I step fin mg mb post (pre ++ [x]) τ' M' e'
    exact ⟨h1, mg x τ M _ _ (fun τ1 M1 => mb { En with nx := I (pre ++ [x]) post, ct := I (pre ++ [x]) post, bk := En.nx } { En with nx := forT ok g tb En post, ct := forT ok g tb En post, bk := En.nx } τ1 M1 ⟨turns, fun _ _ z => z, fun _ _ z => z, turns, fun _ _ _ _ z => z⟩) h2⟩
/-- a loop whose state is told of what is left alone -/
theorem forT_inv {ok : Mp → Prop} {g : DG} {tb : DS} {En : DEnds} (mg : MonoG g) (mb : MonoS tb) (I : List D → Sd → Mp → Prop)
    (step : ∀ x post τ M, I (x :: post) τ M → ok M ∧ g x τ M fun τ1 M1 => tb { En with nx := I post, ct := I post, bk := En.nx } τ1 M1)
    (fin : ∀ τ M, I [] τ M → ok M ∧ En.nx τ M) : ∀ (ds : List D) (τ : Sd) (M : Mp), I ds τ M → forT ok g tb En ds τ M
  | [], τ, M, h => fin τ M h
  | x :: post, τ, M, h => by
    obtain ⟨h1, h2⟩ := step x post τ M h
    have turns := forT_inv mg mb I step fin post
    exact ⟨h1, mg x τ M _ _ (fun τ1 M1 => mb { En with nx := I post, ct := I post, bk := En.nx } { En with nx := forT ok g tb En post, ct := forT ok g tb En post, bk := En.nx } τ1 M1 ⟨turns, fun _ _ z => z, fun _ _ z => z, turns, fun _ _ _ _ z => z⟩) h2⟩
theorem compT_inv {ok : Mp → Prop} {g : DG} {tt : DT} {te : DE} {p : Addr} {τ : Sd} {k : List D → Mp → Prop} (mg : MonoG g) (mt : MonoT tt) (me : MonoE te) (I : List D → List D → Mp → Prop)
    (step : ∀ x post acc M, I (x :: post) acc M → ok M ∧ M p = some .priv ∧ g x τ M fun τ2 M2 => tt τ2 M2 (fun b M3 => if b = true then te τ2 M3 (fun y M4 => I post (acc ++ [y]) M4) (fun _ _ _ => False) else I post acc M3) fun _ _ _ => False)
    (fin : ∀ acc M, I [] acc M → ok M ∧ M p = some .priv ∧ k acc M) : ∀ (ds acc : List D) (M : Mp), I ds acc M → compT ok g tt te p τ k ds acc M
  | [], acc, M, h => fin acc M h
  | x :: post, acc, M, h => by
    obtain ⟨h0, h1, h2⟩ := step x post acc M h
    have turns := compT_inv mg mt me I step fin post
    refine ⟨h0, h1, mg x τ M _ _ (fun τ1 M1 => mt τ1 M1 _ _ _ _ (fun b M3 z => ?_) fun _ _ _ z => z) h2⟩
    cases b with
    | true => rw [if_pos rfl] at z ⊢; exact me τ1 M3 _ _ _ _ (fun y M4 => turns (acc ++ [y]) M4) (fun _ _ _ z => z) z
    | false => rw [if_neg Bool.false_ne_true] at z ⊢; exact turns acc M3 z
/-- a comprehension that changes nothing -/
theorem comp_map {ok : Mp → Prop} {g : DG} {te : DE} {p : Addr} {τ : Sd} {k : List D → Mp → Prop} (mg : MonoG g) (me : MonoE te) {M : Mp} (f : D → D) (hp : M p = none) (hok : ok (put M p .priv)) : ∀ (ds acc : List D)
    (_ : ∀ x ∈ ds, g x τ (put M p .priv) fun τ2 M2 => te τ2 M2 (fun y M4 => y = f x ∧ M4 = put M p .priv) fun _ _ _ => False) (_ : k (acc ++ ds.map f) (put M p .priv)), compT ok g tYesD te p τ k ds acc (put M p .priv)
  | [], acc, _, hk => ⟨hok, put_same, by simpa using hk⟩
  | x :: ds, acc, hx, hk => by
    refine ⟨hok, put_same, mg x τ _ _ _ (fun τ1 M1 z => ?_) (hx x List.mem_cons_self)⟩
    show (if true = true then te τ1 M1 (fun y M4 => compT ok g tYesD te p τ k ds (acc ++ [y]) M4) (fun _ _ _ => False) else compT ok g tYesD te p τ k ds acc M1)
    rw [if_pos rfl]
    refine me τ1 M1 _ _ _ _ (fun y M4 ⟨e1, e2⟩ => ?_) (fun _ _ _ z => z) z
    subst e1; subst e2
    exact comp_map mg me f hp hok ds _ (fun x hx' => hx x (List.mem_cons_of_mem _ hx')) (by simpa using hk)
theorem comp_filter {ok : Mp → Prop} {g : DG} {tt : DT} {te : DE} {p : Addr} {τ : Sd} {k : List D → Mp → Prop} (mg : MonoG g) (mt : MonoT tt) (me : MonoE te) {M : Mp} (f : D → D) (t : D → Bool) (hp : M p = none) (hok : ok (put M p .priv)) : ∀ (ds acc : List D)
    (_ : ∀ x ∈ ds, g x τ (put M p .priv) fun τ2 M2 => tt τ2 M2 (fun b M3 => b = t x ∧ M3 = put M p .priv ∧ (b = true → te τ2 M3 (fun y M4 => y = f x ∧ M4 = put M p .priv) fun _ _ _ => False)) fun _ _ _ => False) (_ : k (acc ++ (ds.filter t).map f) (put M p .priv)), compT ok g tt te p τ k ds acc (put M p .priv)
  | [], acc, _, hk => ⟨hok, put_same, by simpa using hk⟩
  | x :: ds, acc, hx, hk => by
    refine ⟨hok, put_same, mg x τ _ _ _ (fun τ1 M1 z => mt τ1 M1 _ _ _ _ (fun b M3 ⟨e1, e2, z⟩ => ?_) (fun _ _ _ z => z) z) (hx x List.mem_cons_self)⟩
    have hx' := fun y (hy : y ∈ ds) => hx y (List.mem_cons_of_mem _ hy)
    cases b with
    | true =>
      rw [if_pos rfl]
      refine me τ1 M3 _ _ _ _ (fun y M4 ⟨e3, e4⟩ => ?_) (fun _ _ _ z => z) (z rfl)
      subst e3; subst e4
      refine comp_filter mg mt me f t hp hok ds _ hx' ?_
      rw [List.filter_cons_of_pos e1.symm] at hk
      simpa using hk
    | false =>
      rw [if_neg Bool.false_ne_true]
      subst e2
      refine comp_filter mg mt me f t hp hok ds _ hx' ?_
      rw [List.filter_cons_of_neg (by rw [← e1]; simp)] at hk
      exact hk
/-! ### the facts of the head -/
theorem defAt_of {K : PySem.W.Frag} {h : Heap} {mg : Str → Option Value} {x : Str} {st : Stmt} (X : K.In h) (G : h.Ns mainGlobals mg) (F : ∃ fd, FunD K x x (defArgs st) (defBody st) (defScope st) [] [] (He.fAd K (x, none)) fd) (g : (He.Fa.glo x).ok K = true) : DefAt K mg x st := by
  obtain ⟨fd, F⟩ := F
  exact ⟨_, fd, fun_of F, He.glo_ok X G g⟩
end DL

/-! Names, orders, short words. -/
namespace DL
open PySem PySem.Spec PyProof.Rows L2
section
variable {C : DC} {e elt tg iter a b c : Expr} {es ifs : List Expr} {x y z : Str} {p pos spos : Pos} {ta tb te : DE} {t : DA} {id T : String}
/-! ### names in short: a local, a cell, a free name -/
theorem dvl (i : Nat) (hN : C.X.N[i]? = some x := by rfl) (hv : C.X.env.scope.names.lookup x = some .local := by rfl) (hd : (x == ("__debug__" : Str)) = false := by decide) (hcd : (x == ("__classdict__" : Str)) = false := by decide) : DPE C (.Name x pos) (dVar i) := de_var hN (.inl hv) hd hcd
theorem dvc (i : Nat) (hN : C.X.N[i]? = some x := by rfl) (hv : C.X.env.scope.names.lookup x = some .cell := by rfl) (hd : (x == ("__debug__" : Str)) = false := by decide) (hcd : (x == ("__classdict__" : Str)) = false := by decide) : DPE C (.Name x pos) (dVar i) := de_var hN (.inr (.inl hv)) hd hcd
theorem dvf (i : Nat) (hN : C.X.N[i]? = some x := by rfl) (hv : C.X.env.scope.names.lookup x = some .free := by rfl) (hd : (x == ("__debug__" : Str)) = false := by decide) (hcd : (x == ("__classdict__" : Str)) = false := by decide) : DPE C (.Name x pos) (dVar i) := de_var hN (.inr (.inr hv)) hd hcd
theorem dgl (i : Nat) (hi : C.X.N[i]? = some x := by rfl) (hx : C.X.env.scope.names.lookup x = some .local := by rfl) (hf : C.X.fn x = true ∨ C.X.env.scope.names.lookup x = some .local := by first | exact .inl rfl | exact .inr rfl | assumption) : DPG C (.Name x pos) (gVar i) := dg_name hi (.inl hx) hf
theorem dgc (i : Nat) (hi : C.X.N[i]? = some x := by rfl) (hx : C.X.env.scope.names.lookup x = some .cell := by rfl) (hf : C.X.fn x = true ∨ C.X.env.scope.names.lookup x = some .local := by first | exact .inl rfl | exact .inr rfl | assumption) : DPG C (.Name x pos) (gVar i) := dg_name hi (.inr hx) hf
theorem dwl {vs : List Nat} (i : Nat) (hv : i ∈ vs := by decide) (hi : C.X.N[i]? = some x := by rfl) (hx : C.X.env.scope.names.lookup x = some .local := by rfl) (hf : C.X.fn x = true ∨ C.X.env.scope.names.lookup x = some .local := by first | exact .inl rfl | exact .inr rfl | assumption) : DPW C (.Name x pos) vs (gVar i) := dw_name hv hi (.inl hx) hf
theorem dwc {vs : List Nat} (i : Nat) (hv : i ∈ vs := by decide) (hi : C.X.N[i]? = some x := by rfl) (hx : C.X.env.scope.names.lookup x = some .cell := by rfl) (hf : C.X.fn x = true ∨ C.X.env.scope.names.lookup x = some .local := by first | exact .inl rfl | exact .inr rfl | assumption) : DPW C (.Name x pos) vs (gVar i) := dw_name hv hi (.inr hx) hf
theorem dsl (i : Nat) {pos' : Pos} (he : DPE C e te) (hi : C.X.N[i]? = some x := by rfl) (hx : C.X.env.scope.names.lookup x = some .local := by rfl) (hs : swapsWith e (some (.Name x pos')) pos.line C.X.env = pure false := by rfl) (hf : C.X.fn x = true ∨ C.X.env.scope.names.lookup x = some .local := by first | exact .inl rfl | exact .inr rfl | assumption) : DPS C (.Assign [.Name x pos'] e pos) (sAsg te (gVar i)) := ds_set he hi (.inl hx) hs hf
theorem dsc (i : Nat) {pos' : Pos} (he : DPE C e te) (hi : C.X.N[i]? = some x := by rfl) (hx : C.X.env.scope.names.lookup x = some .cell := by rfl) (hs : swapsWith e (some (.Name x pos')) pos.line C.X.env = pure false := by rfl) (hf : C.X.fn x = true ∨ C.X.env.scope.names.lookup x = some .local := by first | exact .inl rfl | exact .inr rfl | assumption) : DPS C (.Assign [.Name x pos'] e pos) (sAsg te (gVar i)) := ds_set he hi (.inr hx) hs hf
/-- a constant of the module -/
theorem dgi {i : Int} (hm : ∃ t, C.X.mg x = some (.int i t)) (hg : Gl C.X x := by rfl) (hd : (x == ("__debug__" : Str)) = false := by decide) : DPE C (.Name x pos) (dC (.int i)) :=
  let ⟨t, e⟩ := hm; de_glob (v := .int i) hg e ⟨t, rfl⟩ (fun _ _ => by simp only [Den]) hd
theorem dgs {i : Str} (hm : ∃ t, C.X.mg x = some (.str i t)) (hg : Gl C.X x := by rfl) (hd : (x == ("__debug__" : Str)) = false := by decide) : DPE C (.Name x pos) (dC (.str i)) :=
  let ⟨t, e⟩ := hm; de_glob (v := .str i) hg e ⟨t, rfl⟩ (fun _ _ => by simp only [Den]) hd
/-- a builtin type by name -/
theorem dty (hm : C.X.mg x = none) (hv : bootBuiltins x = some (.type T)) (hg : Gl C.X x := by rfl) (hn : x ≠ "__name__" := by decide) (hd : (x == ("__debug__" : Str)) = false := by decide) : DPE C (.Name x pos) (dC (.ty T)) :=
  ⟨mono_c, fun pins s σ H τ M Q I er sr q => ld_blt I hg hm hv ⟨.ty T, H, .ty T, M, I, rfl, Go.refl sr, by simp only [Den], q⟩ hn hd⟩
/-! ### built-ins in short -/
theorem dcb {g : OL} (hm : C.X.mg x = none) (hv : bootBuiltins x = some (.builtin id)) (hc : DCl C (.builtin id) g) (ha : DPA C (e :: es) t) (hg : Gl C.X x := by rfl) (hn : x ≠ "__name__" := by decide) (hdb : (x == ("__debug__" : Str)) = false := by decide)
    (he : starEach (e :: es) C.X.env = (false, eval e C.X.env) :: starEach es C.X.env := by rfl) (hpl : (backTo pos (starEach es C.X.env)).any (·.1) = false := by rfl) : DPE C (.Call (.Name x p) (e :: es) [] pos) (dFn g t) := de_callB hc hg hm hv ha hn hdb he hpl
theorem dct {g : OL} (hm : C.X.mg x = none) (hv : bootBuiltins x = some (.type T)) (hc : DCl C (.type T) g) (ha : DPA C (e :: es) t) (hg : Gl C.X x := by rfl) (hn : x ≠ "__name__" := by decide) (hdb : (x == ("__debug__" : Str)) = false := by decide)
    (he : starEach (e :: es) C.X.env = (false, eval e C.X.env) :: starEach es C.X.env := by rfl) (hpl : (backTo pos (starEach es C.X.env)).any (·.1) = false := by rfl) : DPE C (.Call (.Name x p) (e :: es) [] pos) (dFn g t) := de_callT hc hg hm hv ha hn hdb he hpl
theorem dcx {ps : List Str} {sp : DSp} {k : Nat} (F : FnX C.X.prog C.X.w C.X.K C.X.mg C.X.base C.T k x ps sp) (ha : DPA C (e :: es) t) (hk : Nat.ble k C.lv = true := by rfl) (hc : C.X.calm = true := by rfl) (hg : Gl C.X x := by rfl) (hdb : (x == ("__debug__" : Str)) = false := by decide)
    (he : starEach (e :: es) C.X.env = (false, eval e C.X.env) :: starEach es C.X.env := by rfl) (hpl : (backTo pos (starEach es C.X.env)).any (·.1) = false := by rfl) : DPE C (.Call (.Name x p) (e :: es) [] pos) (dCall sp t) := de_callX F (Nat.le_of_ble_eq_true hk) hc hg ha hdb he hpl
theorem dcx0 {ps : List Str} {sp : DSp} {k : Nat} (F : FnX C.X.prog C.X.w C.X.K C.X.mg C.X.base C.T k x ps sp) (hk : Nat.ble k C.lv = true := by rfl) (hc : C.X.calm = true := by rfl) (hg : Gl C.X x := by rfl) (hdb : (x == ("__debug__" : Str)) = false := by decide) : DPE C (.Call (.Name x p) [] [] pos) (dCall sp dNil) := de_callX0 F (Nat.le_of_ble_eq_true hk) hc hg hdb
/-! ### is, orders -/
def fIs : O2 := fun x y _ => match y with
  | .non => some (.bl (isNon x))
  | .bl b => match x with
    | .bl a => some (.bl (decide (a = b)))
    | _ => none
  | _ => none
def fIsNot : O2 := fun x y _ => match y with
  | .non => some (.bl (!isNon x))
  | .bl b => match x with
    | .bl a => some (.bl (!decide (a = b)))
    | _ => none
  | _ => none
theorem dop_is : DOp C (compareOp .Is) fIs := fun pins s σ H M x y u v d e z I sr r1 r2 d1 d2 ez => by
  unfold fIs at ez
  split at ez <;> try cases ez
  · exact dop_isN pins s σ H M x y u v d .non _ I sr r1 r2 d1 d2 rfl
  · split at ez <;> cases ez
    simp only [Den] at d1 d2
    exact thn (op_is_bl pins s σ H x y u v (fun w H' => H' = H ∧ w = .bl _) I r1 r2 ⟨_, _, d1, d2, rfl, rfl⟩) fun w s' ⟨wv, H', I', rw, e1, e2⟩ => by
      subst e1; subst e2
      exact ⟨_, H', _, M, I', rw, Go.refl sr, by simp only [Den], rfl, rfl⟩
theorem dop_isNot : DOp C (compareOp .IsNot) fIsNot := fun pins s σ H M x y u v d e z I sr r1 r2 d1 d2 ez => by
  unfold fIsNot at ez
  split at ez <;> try cases ez
  · exact dop_notN pins s σ H M x y u v d .non _ I sr r1 r2 d1 d2 rfl
  · split at ez <;> cases ez
    simp only [Den] at d1 d2
    exact thn (op_isnot_bl pins s σ H x y u v (fun w H' => H' = H ∧ w = .bl _) I r1 r2 ⟨_, _, d1, d2, rfl, rfl⟩) fun w s' ⟨wv, H', I', rw, e1, e2⟩ => by
      subst e1; subst e2
      exact ⟨_, H', _, M, I', rw, Go.refl sr, by simp only [Den], rfl, rfl⟩
/-- comparable by < -/
def ordB (x y : D) : Bool := shp 60 x && shp 60 y && PySem.W.alike (pyT x) (pyT y) && !isNon x
def fOrd (g : PyData → PyData → Bool) (h : Int → Int → Bool) : O2 := fun x y M => match x, y with
  | .int i, .int j => some (.bl (h i j))
  | _, _ => if ordB (deref M x) (deref M y) = true then some (.bl (g (pyT (deref M x)) (pyT (deref M y)))) else none
def fLtD : O2 := fOrd PySem.W.dataLt fun i j => decide (i < j)
def fGtD : O2 := fOrd (fun a b => PySem.W.dataLt b a) fun i j => decide (j < i)
def fLeD : O2 := fOrd (fun a b => !PySem.W.dataLt b a) fun i j => decide (i ≤ j)
def fGeD : O2 := fOrd (fun a b => !PySem.W.dataLt a b) fun i j => decide (j ≤ i)
theorem dop_ord {F : Value → Value → Sem Value} {g : PyData → PyData → Bool} {h : Int → Int → Bool} (hi : DOp C F (fI (fun _ _ => true) fun i j => .bl (h i j)))
    (hd : ∀ (s : Shared) (u v : Value) (da db : PyData) (as bs : List Addr) (Q E : Value → Shared → Prop), Reads s.heap u da as → Reads s.heap v db bs → PySem.W.alike da db = true → da ≠ .none → C.X.A.units + min da.depth db.depth < cLine → Q (.bool (g da db)) s → wpAny (model C.X.prog C.X.w) C.X.A (F u v) Q E s) : DOp C F (fOrd g h) :=
  fun pins s σ H M x y u v d e z I sr r1 r2 d1 d2 ez => by
  unfold fOrd at ez
  split at ez
  · cases ez
    exact hi pins s σ H M x y u v _ _ _ I sr r1 r2 d1 d2 (by simp only [fI, if_true])
  · split at ez <;> cases ez
    rename_i hB
    unfold ordB at hB
    simp only [Bool.and_eq_true] at hB
    obtain ⟨⟨⟨s1, s2⟩, al⟩, nn⟩ := hB
    have p1 := deref_dp sr.abs (shp_mono (by omega) s1) d1
    have p2 := deref_dp sr.abs (shp_mono (by omega) s2) d2
    obtain ⟨as, R1⟩ := Dp.reads I _ x u p1 r1
    obtain ⟨bs, R2⟩ := Dp.reads I _ y v p2 r2
    refine hd s u v _ _ as bs _ _ R1 R2 al (fun q => ?_) ?_ ⟨.bl _, H, .bl _, M, I, rfl, Go.refl sr, by simp only [Den], rfl, rfl⟩
    · cases hx : deref M d <;> rw [hx] at q nn s1 <;> simp [pyT, isNon, shp] at q nn s1
    · have h1 := (shp_shaped s1).2
      have h2 := C.un
      omega
theorem dop_ltD : DOp C (compareOp .Lt) fLtD := dop_ord dop_lt fun s u v da db as bs Q E ra rb h hn hu hq => PySem.W.lt_data ra rb h hn hu hq
theorem dop_gtD : DOp C (compareOp .Gt) fGtD := dop_ord dop_gt fun s u v da db as bs Q E ra rb h hn hu hq => PySem.W.gt_data ra rb h hn hu hq
theorem dop_leD : DOp C (compareOp .LtE) fLeD := dop_ord dop_le fun s u v da db as bs Q E ra rb h hn hu hq => PySem.W.le_data ra rb h hn hu hq
theorem dop_geD : DOp C (compareOp .GtE) fGeD := dop_ord dop_ge fun s u v da db as bs Q E ra rb h hn hu hq => PySem.W.ge_data ra rb h hn hu hq
/-! ### a, b = x, y -/
theorem ds_par (i j : Nat) {px py pt p2 : Pos} {kt k2 : Nat} (ha : DPA C [a, b] t) (hc : C.X.calm = true := by rfl) (hi : C.X.N[i]? = some x := by rfl) (hj : C.X.N[j]? = some y := by rfl) (hij : i ≠ j := by decide)
    (hx : C.X.env.scope.names.lookup x = some .local := by rfl) (hy : C.X.env.scope.names.lookup y = some .local := by rfl)
    (hw : swappedStores [.Tuple [.Name x px, .Name y py] kt pt] (.Tuple [a, b] k2 p2) C.X.env = pure (some [x, y]) := by rfl)
    (hs : swapsWithSole [.Tuple [.Name x px, .Name y py] kt pt] (.Tuple [a, b] k2 p2) pos.line C.X.env = pure false := by rfl) :
    DPS C (.Assign [.Tuple [.Name x px, .Name y py] kt pt] (.Tuple [a, b] k2 p2) pos) (sPar i j t) :=
  .of (monoS_par ha.mono) (ps_par hc C.nd hi hj hij hx hy ha.pa hw hs) fun H M τ σ D er sr q => ⟨τ, M, er, sr, ha.mono _ _ _ _ _ _ (fun ds M' z vs H' g l => by
    revert z
    split
    · intro z
      obtain ⟨v, w, rfl, d1, d2⟩ := l.two
      refine ⟨v, w, rfl, _, M', ?_, g, z⟩
      rw [setV_set, setV_set]
      exact ((er.keep g.keep).set d1).set d2
    · exact False.elim) (fun _ _ _ z => z) q⟩
def sPar3 (i j l : Nat) (t : DA) : DS := fun D τ M => t τ M (fun ds M1 => match ds with
  | [x, y, z] => D.nx (setV (setV (setV τ i (some x)) j (some y)) l (some z)) M1
  | _ => False) fun c fs M1 => D.ex c fs τ M1
theorem monoS_par3 {i j l : Nat} (m : MonoA t) : MonoS (sPar3 i j l t) := fun a b τ M h q => m τ M _ _ _ _ (fun ds M1 z => by
  revert z
  split
  · exact h.nx _ _
  · exact False.elim) (fun c fs M1 => h.ex c fs τ M1) q
theorem ds_par3 (i j l : Nat) {px py pz pt p2 : Pos} {kt k2 : Nat} (ha : DPA C [a, b, c] t) (hc : C.X.calm = true := by rfl) (hi : C.X.N[i]? = some x := by rfl) (hj : C.X.N[j]? = some y := by rfl) (hl : C.X.N[l]? = some z := by rfl) (hij : i ≠ j := by decide) (hil : i ≠ l := by decide) (hjl : j ≠ l := by decide)
    (hx : C.X.env.scope.names.lookup x = some .local := by rfl) (hy : C.X.env.scope.names.lookup y = some .local := by rfl) (hz : C.X.env.scope.names.lookup z = some .local := by rfl)
    (hw : swappedStores [.Tuple [.Name x px, .Name y py, .Name z pz] kt pt] (.Tuple [a, b, c] k2 p2) C.X.env = pure (some [x, y, z]) := by rfl)
    (hs : swapsWithSole [.Tuple [.Name x px, .Name y py, .Name z pz] kt pt] (.Tuple [a, b, c] k2 p2) pos.line C.X.env = pure false := by rfl) :
    DPS C (.Assign [.Tuple [.Name x px, .Name y py, .Name z pz] kt pt] (.Tuple [a, b, c] k2 p2) pos) (sPar3 i j l t) :=
  .of (monoS_par3 ha.mono) (ps_par3 hc C.nd hi hj hl hij hil hjl hx hy hz ha.pa hw hs) fun H M τ σ D er sr q => ⟨τ, M, er, sr, ha.mono _ _ _ _ _ _ (fun ds M' z vs H' g l => by
    revert z
    split
    · intro z
      obtain ⟨u, v, w, rfl, d1, d2, d3⟩ := l.three
      refine ⟨u, v, w, rfl, _, M', ?_, g, z⟩
      rw [setV_set, setV_set, setV_set]
      exact (((er.keep g.keep).set d1).set d2).set d3
    · exact False.elim) (fun _ _ _ z => z) q⟩
/-! ### y = [..], the list changed later -/
theorem ds_compM {scope : Scope} {own : List (Str × Nat)} {i : Nat} {py : Pos} {wi : DI} {g : DG} {tt : DT} (hc : C.X.calm = true) (hy : C.X.N[i]? = some y) (hyl : C.X.env.scope.names.lookup y = some .local)
    (hsw : swapsWith (.ListComp elt [⟨tg, iter, ifs, 0⟩] scope pos) (some (.Name y py)) spos.line C.X.env = pure true) (hi : DPI C tg iter wi) (ok : BlkOk C.X.N C.X.env.scope scope own)
    (hg : ∀ (s : Shared) (H : Hp) (A : Addr) (cl : List (Str × Addr)) (fp : List Addr), DPW (blk C s H scope (compEnvC scope cl A C.X.env) fp) tg (own.map (·.2)) g)
    (ht : ∀ (s : Shared) (H : Hp) (A : Addr) (cl : List (Str × Addr)) (fp : List Addr), DPTs (blk C s H scope (compEnvC scope cl A C.X.env) fp) ifs tt)
    (he : ∀ (s : Shared) (H : Hp) (A : Addr) (cl : List (Str × Addr)) (fp : List Addr), DPE (blk C s H scope (compEnvC scope cl A C.X.env) fp) elt te) (hs : ∀ x, foldedSetIterable iter C.X.env x = pure x := by intro _; rfl) :
    DPS C (.Assign [.Name y py] (.ListComp elt [⟨tg, iter, ifs, 0⟩] scope pos) spos) (sAsg (dCompM wi g tt te (own.map (·.2))) (gVar i)) := by
  have mg := (hg C.X.s_0 C.X.H_0 0 [] []).mono
  have mt := (ht C.X.s_0 C.X.H_0 0 [] []).mono
  have me := (he C.X.s_0 C.X.H_0 0 [] []).mono
  refine .of (monoS_asg (mono_compM hi.mono mg mt me) monoG_var) (ps_setLc hc C.nd hy hyl hsw hi.pi ok (fun s H A cl fp => (hg s H A cl fp).pg) (fun s H A cl fp => (ht s H A cl fp).pts) (fun s H A cl fp => (he s H A cl fp).pb) hs) fun H M τ σ D er sr q => ?_
  refine ⟨τ, M, er, sr, hi.mono _ _ _ _ _ _ (fun ds oks M' z J H' g1 fe p hp => ?_) (fun _ _ _ z => z) q⟩
  refine comp_lc (Q := fun x H1 => L2.gName i x σ H1 (endsOf C H M D).nx) mg mt me (sr.go g1) (er.keep g1.keep) fe p hp (z p (g1.abs.free hp)) fun acc M2 H2 ws k hM g2 hH l hz => ?_
  have kp : KeepR H2 M2 H2 (put M2 p (.lst acc)) := fun a u e n _ => ⟨by rw [put_ne (fun z => by rw [z, hM] at n; cases n)]; exact n, e⟩
  have g3 : Go C H' M' H2 (put M2 p (.lst acc)) := by
    refine ⟨fun a u e n => ?_, fun a o e => ?_, g2.tab⟩
    · have := g2.keep a u e n
      rw [put_ne (ne_of_none e hp)]
      exact this
    · by_cases ha : a = p
      · subst ha
        rw [put_same] at e; cases e
        exact ⟨ws, hH, DenL.keepR kp _ l⟩
      · rw [put_ne ha] at e
        exact (g2.abs a o e).keepR kp rfl
  refine ⟨_, put M2 p (.lst acc), ?_, g1.trans g3, k⟩
  rw [setV_set]
  refine EnvR.set ((er.keep g1.keep).keep g3.keep) ?_
  simp only [Den]
/-- a def whose promise is empty -/
def botP : DSp := fun _ _ _ _ => False
theorem fnx_bot {P : Program} {w : World} {K : PySem.W.Frag} {mg : Str → Option Value} {base : Heap} {T : List (Addr × Str)} {st : Stmt} {ps : List Str} (A : DefAt K mg x st) (hb : BindN x st ps) : FnX P w K mg base T 0 x ps botP := by
  obtain ⟨f, fd, F, e⟩ := A
  exact ⟨f, fd, ⟨fun _ _ _ _ q => q.elim, fun _ _ _ _ _ _ _ _ q => q.elim, fun _ _ _ _ _ _ _ _ _ _ _ _ _ _ _ _ _ _ _ q => q.elim⟩, e, F.kp, F.binds hb⟩
end
/-! ### the built-ins' names -/
theorem bb_len : bootBuiltins "len" = some (.builtin "len") := by decide +kernel
theorem bb_all : bootBuiltins "all" = some (.builtin "all") := by decide +kernel
theorem bb_any : bootBuiltins "any" = some (.builtin "any") := by decide +kernel
theorem bb_sum : bootBuiltins "sum" = some (.builtin "sum") := by decide +kernel
theorem bb_max : bootBuiltins "max" = some (.builtin "max") := by decide +kernel
theorem bb_min : bootBuiltins "min" = some (.builtin "min") := by decide +kernel
theorem bb_abs : bootBuiltins "abs" = some (.builtin "abs") := by decide +kernel
theorem bb_repr : bootBuiltins "repr" = some (.builtin "repr") := by decide +kernel
theorem bb_sorted : bootBuiltins "sorted" = some (.builtin "sorted") := by decide +kernel
theorem bb_isinstance : bootBuiltins "isinstance" = some (.builtin "isinstance") := by decide +kernel
theorem bb_int : bootBuiltins "int" = some (.type "int") := by decide +kernel
theorem bb_bool : bootBuiltins "bool" = some (.type "bool") := by decide +kernel
theorem bb_str : bootBuiltins "str" = some (.type "str") := by decide +kernel
theorem bb_tuple : bootBuiltins "tuple" = some (.type "tuple") := by decide +kernel
theorem bb_list : bootBuiltins "list" = some (.type "list") := by decide +kernel
theorem bb_dict : bootBuiltins "dict" = some (.type "dict") := by decide +kernel
theorem bb_set : bootBuiltins "set" = some (.type "set") := by decide +kernel
end DL

/-! The readings, by simp. -/
namespace DL
open PySem PySem.Spec PyProof.Rows L2
section
variable {ta tb tc te to ti : DE} {t : DA} {u v : DS} {A B c : DT} {g : DG} {gs : DGs} {wi : DI} {τ : Sd} {M : Mp} {Q : DK} {QB : Bool → Mp → Prop} {QA : List D → Mp → Prop} {QI : List D → (Mp → Prop) → Mp → Prop} {QG : Sd → Mp → Prop} {E : DX} {En : DEnds} {d : D} {ds : List D} {i j l n : Nat} {f h : O2} {fl : OL} {sp : DSp}
@[simp] theorem z_next : sNext En τ M = En.nx τ M := of_eq_true (eq_self _)
@[simp] theorem z_seq : sSeq u v En τ M = u { En with nx := v En } τ M := of_eq_true (eq_self _)
@[simp] theorem z_brk : sBreak En τ M = En.bk τ M := of_eq_true (eq_self _)
@[simp] theorem z_cont : sCont En τ M = En.ct τ M := of_eq_true (eq_self _)
@[simp] theorem z_drop : sDrop te En τ M = te τ M (fun _ M1 => En.nx τ M1) (fun c fs M1 => En.ex c fs τ M1) := of_eq_true (eq_self _)
@[simp] theorem z_ret : sRet te En τ M = te τ M En.rt (fun c fs M1 => En.ex c fs τ M1) := of_eq_true (eq_self _)
@[simp] theorem z_if : sIf c u v En τ M = c τ M (fun k M1 => if k = true then u En τ M1 else v En τ M1) (fun c fs M1 => En.ex c fs τ M1) := of_eq_true (eq_self _)
@[simp] theorem z_never : sNever En τ M = False := of_eq_true (eq_self _)
@[simp] theorem z_asg : sAsg te g En τ M = te τ M (fun d M1 => g d τ M1 En.nx) (fun c fs M1 => En.ex c fs τ M1) := of_eq_true (eq_self _)
@[simp] theorem z_par : sPar i j t En τ M = t τ M (fun ds M1 => match ds with
  | [x, y] => En.nx (setV (setV τ i (some x)) j (some y)) M1
  | _ => False) (fun c fs M1 => En.ex c fs τ M1) := of_eq_true (eq_self _)
@[simp] theorem z_par3 : sPar3 i j l t En τ M = t τ M (fun ds M1 => match ds with
  | [x, y, z] => En.nx (setV (setV (setV τ i (some x)) j (some y)) l (some z)) M1
  | _ => False) (fun c fs M1 => En.ex c fs τ M1) := of_eq_true (eq_self _)
@[simp] theorem z_for : sFor wi g u En τ M = wi τ M (fun ds ok M1 => forT ok g u En ds τ M1) (fun c fs M1 => En.ex c fs τ M1) := of_eq_true (eq_self _)
@[simp] theorem z_for0 {ok : Mp → Prop} : forT ok g u En [] τ M = (ok M ∧ En.nx τ M) := of_eq_true (eq_self _)
@[simp] theorem z_for1 {ok : Mp → Prop} : forT ok g u En (d :: ds) τ M = (ok M ∧ g d τ M fun τ' M' => u { En with nx := forT ok g u En ds, ct := forT ok g u En ds, bk := En.nx } τ' M') := of_eq_true (eq_self _)
@[simp] theorem z_var : dVar i τ M Q E = ok1 (getV τ i) (fun d => Q d M) := of_eq_true (eq_self _)
@[simp] theorem z_c : dC d τ M Q E = Q d M := of_eq_true (eq_self _)
@[simp] theorem z_get0 {o : Option D} {r : Sd} : getV (o :: r) 0 = o := of_eq_true (eq_self _)
@[simp] theorem z_get1 {o : Option D} {r : Sd} : getV (o :: r) (i + 1) = getV r i := of_eq_true (eq_self _)
@[simp] theorem z_set0 {o x : Option D} {r : Sd} : setV (o :: r) 0 x = x :: r := of_eq_true (eq_self _)
@[simp] theorem z_set1 {o x : Option D} {r : Sd} : setV (o :: r) (i + 1) x = o :: setV r i x := of_eq_true (eq_self _)
@[simp] theorem z_op : dOp f ta tb τ M Q E = ta τ M (fun x M1 => tb τ M1 (fun y M2 => ok1 (f x y M2) fun z => Q z M2) E) E := of_eq_true (eq_self _)
@[simp] theorem z_fn : dFn fl t τ M Q E = t τ M (fun ds M1 => ok1 (fl ds M1) fun z => Q z M1) E := of_eq_true (eq_self _)
@[simp] theorem z_call : dCall sp t τ M Q E = t τ M (fun ds M1 => sp ds M1 Q E) E := of_eq_true (eq_self _)
@[simp] theorem z_and : dAnd ta tb τ M Q E = ta τ M (fun x M1 => ok1 (bool1 x) fun c => if c = true then tb τ M1 Q E else Q (.bl false) M1) E := of_eq_true (eq_self _)
@[simp] theorem z_or : dOr ta tb τ M Q E = ta τ M (fun x M1 => ok1 (bool1 x) fun c => if c = true then Q (.bl true) M1 else tb τ M1 Q E) E := of_eq_true (eq_self _)
@[simp] theorem z_not : dNot ta τ M Q E = ta τ M (fun x M1 => ok1 (bool1 x) fun c => Q (.bl (!c)) M1) E := of_eq_true (eq_self _)
@[simp] theorem z_neg : dNeg ta τ M Q E = ta τ M (fun x M1 => match x with
  | .int i => Q (.int (-i)) M1
  | _ => False) E := of_eq_true (eq_self _)
@[simp] theorem z_ife : dIf c ta tb τ M Q E = c τ M (fun k M1 => if k = true then ta τ M1 Q E else tb τ M1 Q E) E := of_eq_true (eq_self _)
@[simp] theorem z_chain : dChain f h ta tb tc τ M Q E = ta τ M (fun x M1 => tb τ M1 (fun y M2 => ok1 (f x y M2) fun z => ok1 (bool1 z) fun k =>
  if k = true then tc τ M2 (fun w M3 => ok1 (h y w M3) fun z => Q z M3) E else Q (.bl false) M2) E) E := of_eq_true (eq_self _)
@[simp] theorem z_nil : dNil τ M QA E = QA [] M := of_eq_true (eq_self _)
@[simp] theorem z_cons : dCons ta t τ M QA E = ta τ M (fun d M1 => t τ M1 (fun ds M2 => QA (d :: ds) M2) E) E := of_eq_true (eq_self _)
@[simp] theorem z_tup : dTup t τ M Q E = t τ M (fun ds M1 => ds.length ≤ sizeLine ∧ Q (.tup ds) M1) E := of_eq_true (eq_self _)
@[simp] theorem z_lst : dLst t τ M Q E = t τ M (fun ds M1 => ds.length ≤ sizeLine ∧ Q (.lst ds) M1) E := of_eq_true (eq_self _)
@[simp] theorem z_lstM : dLstM t τ M Q E = t τ M (fun ds M1 => ds.length ≤ sizeLine ∧ ∀ p, M1 p = none → Q (.ref p) (put M1 p (.lst ds))) E := of_eq_true (eq_self _)
@[simp] theorem z_tOf : tOf ta τ M QB E = ta τ M (fun d M1 => ok1 (bool1 d) fun b => QB b M1) E := of_eq_true (eq_self _)
@[simp] theorem z_tand : tAnd A B τ M QB E = A τ M (fun c M1 => if c = true then B τ M1 QB E else QB false M1) E := of_eq_true (eq_self _)
@[simp] theorem z_tor : tOr A B τ M QB E = A τ M (fun c M1 => if c = true then QB true M1 else B τ M1 QB E) E := of_eq_true (eq_self _)
@[simp] theorem z_tnot : tNot A τ M QB E = A τ M (fun c M1 => QB (!c) M1) E := of_eq_true (eq_self _)
@[simp] theorem z_yes : tYesD τ M QB E = QB true M := of_eq_true (eq_self _)
@[simp] theorem z_gvar : gVar i d τ M QG = QG (setV τ i (some d)) M := of_eq_true (eq_self _)
@[simp] theorem z_gnil : gNil [] τ M QG = QG τ M := of_eq_true (eq_self _)
@[simp] theorem z_gcons : gCons g gs (d :: ds) τ M QG = g d τ M (fun τ' M' => gs ds τ' M' QG) := of_eq_true (eq_self _)
@[simp] theorem z_gtup : gTup n gs (.tup ds) τ M QG = (ds.length = n ∧ gs ds τ M QG) := of_eq_true (eq_self _)
@[simp] theorem z_gsub : gSub to ti d τ M QG = to τ M (fun o M1 => ti τ M1 (fun i M2 => ok1 (setAt M2 o i d) fun M3 => QG τ M3) fun _ _ _ => False) (fun _ _ _ => False) := of_eq_true (eq_self _)
@[simp] theorem z_iseq : iSeq te τ M QI E = te τ M (fun d M1 => ok1 (items M1 d) fun xs => QI xs (okOf d xs) M1) E := of_eq_true (eq_self _)
@[simp] theorem z_izip : iZip t τ M QI E = t τ M (fun ds M1 => match ds with
  | [x, y] => alikeSeq M1 x y = true ∧ ok1 (items M1 x) fun xs => ok1 (items M1 y) fun ys => QI (pairs xs ys) (fun N => okOf x xs N ∧ okOf y ys N) M1
  | _ => False) E := of_eq_true (eq_self _)
@[simp] theorem z_range1 : iRange1 t τ M QI E = t τ M (fun ds M1 => match ds with
  | [.int j] => (-4000000000000000000 ≤ j ∧ j ≤ 16777216) ∧ QI (rangeD 0 j.toNat) (fun _ => True) M1
  | _ => False) E := of_eq_true (eq_self _)
@[simp] theorem z_range2 : iRange2 t τ M QI E = t τ M (fun ds M1 => match ds with
  | [.int i, .int j] => (-4000000000000000000 ≤ i ∧ i ≤ 4000000000000000000 ∧ -4000000000000000000 ≤ j ∧ j ≤ 4000000000000000000 ∧ j - i ≤ 16777216) ∧ QI (rangeD i (j - i).toNat) (fun _ => True) M1
  | _ => False) E := of_eq_true (eq_self _)
@[simp] theorem z_comp {vs : List Nat} : dComp wi g c te vs τ M Q E = wi τ M (fun ds ok M1 => ∀ p, M1 p = none → compT ok g c te p (wipeD τ vs) (fun acc M2 => Q (.lst acc) (del M2 p)) ds [] (put M1 p .priv)) E := of_eq_true (eq_self _)
@[simp] theorem z_compM {vs : List Nat} : dCompM wi g c te vs τ M Q E = wi τ M (fun ds ok M1 => ∀ p, M1 p = none → compT ok g c te p (wipeD τ vs) (fun acc M2 => Q (.ref p) (put M2 p (.lst acc))) ds [] (put M1 p .priv)) E := of_eq_true (eq_self _)
@[simp] theorem z_comp0 {ok : Mp → Prop} {p : Addr} {acc : List D} {K : List D → Mp → Prop} : compT ok g c te p τ K [] acc M = (ok M ∧ M p = some .priv ∧ K acc M) := of_eq_true (eq_self _)
@[simp] theorem z_comp1 {ok : Mp → Prop} {p : Addr} {acc : List D} {K : List D → Mp → Prop} : compT ok g c te p τ K (d :: ds) acc M = (ok M ∧ M p = some .priv ∧ g d τ M fun τ2 M2 => c τ2 M2 (fun b M3 => if b = true then te τ2 M3 (fun y M4 => compT ok g c te p τ K ds (acc ++ [y]) M4) (fun _ _ _ => False) else compT ok g c te p τ K ds acc M3) fun _ _ _ => False) := of_eq_true (eq_self _)
@[simp] theorem z_wipe0 : wipeD τ [] = τ := of_eq_true (eq_self _)
@[simp] theorem z_wipe1 {vs : List Nat} : wipeD τ (i :: vs) = setV (wipeD τ vs) i none := of_eq_true (eq_self _)
@[simp] theorem z_meth {ty : Mp → D → Prop} {r : DM} : dMeth ty r to t τ M Q E = to τ M (fun x M1 => ty M1 x ∧ t τ M1 (fun ds M2 => r x ds M2 Q) E) E := of_eq_true (eq_self _)
@[simp] theorem z_app {a : Addr} : rApp (.ref a) [d] M Q = (match M a with
    | some (.lst xs) => xs.length < sizeLine ∧ Q .non (put M a (.lst (xs ++ [d])))
    | _ => False) := of_eq_true (eq_self _)
theorem tyLst_of {a : Addr} {xs : List D} (h : M a = some (.lst xs)) : tyLst M (.ref a) := ⟨a, xs, rfl, h⟩
@[simp] theorem z_onone {QO : Option Int → Mp → Prop} : oNone τ M QO E = QO none M := of_eq_true (eq_self _)
@[simp] theorem z_osome {QO : Option Int → Mp → Prop} : oSome te τ M QO E = te τ M (fun d M1 => match d with
  | .int i => QO (some i) M1
  | _ => False) E := of_eq_true (eq_self _)
@[simp] theorem z_part {tl th : DO} : dPart te tl th τ M Q E = te τ M (fun x M1 => tl τ M1 (fun lo M2 => th τ M2 (fun hi M3 => ok1 (part M3 x lo hi) fun z => Q z M3) E) E) E := of_eq_true (eq_self _)
@[simp] theorem z_pure {g : List D → Option D} : pureP n g ds M Q E = (ds.length = n ∧ ok1 (g ds) fun r => Q r M) := of_eq_true (eq_self _)
end
/-! ### the operations by kinds -/
section
variable {M : Mp} {i j : Int} {a b : Bool} {d e : D} {xs ys : List D} {s z : Str}
@[simp] theorem z_bool1 : bool1 (.bl a) = some a := of_eq_true (eq_self _)
@[simp] theorem z_sub : fSub (.int i) (.int j) M = some (.int (i - j)) := of_eq_true (eq_self _)
@[simp] theorem z_add : fAdd (.int i) (.int j) M = some (.int (i + j)) := of_eq_true (eq_self _)
theorem z_mul : fMul (.int i) (.int j) M = if (small i || small j) = true then some (.int (i * j)) else none := rfl
theorem z_mulc (h : small j = true) : fMul (.int i) (.int j) M = some (.int (i * j)) := by rw [z_mul, h, Bool.or_true, if_pos rfl]
theorem z_mulc' (h : small i = true) : fMul (.int i) (.int j) M = some (.int (i * j)) := by rw [z_mul, h, Bool.true_or, if_pos rfl]
theorem z_div (h1 : 0 < j) (h2 : j < 1073741824) : fDiv (.int i) (.int j) M = some (.int (i / j)) := by simp [fDiv, fI, h1, h2]
theorem z_mod (h1 : 0 < j) : fMod (.int i) (.int j) M = some (.int (i % j)) := by simp [fMod, fI, h1]
@[simp] theorem z_lt : fLtD (.int i) (.int j) M = some (.bl (decide (i < j))) := of_eq_true (eq_self _)
@[simp] theorem z_le : fLeD (.int i) (.int j) M = some (.bl (decide (i ≤ j))) := of_eq_true (eq_self _)
@[simp] theorem z_gt : fGtD (.int i) (.int j) M = some (.bl (decide (j < i))) := of_eq_true (eq_self _)
@[simp] theorem z_ge : fGeD (.int i) (.int j) M = some (.bl (decide (j ≤ i))) := of_eq_true (eq_self _)
@[simp] theorem z_eqI : fEq (.int i) (.int j) M = some (.bl (decide (i = j))) := by
  simp only [fEq, deref, shp, and_self, if_true, deq]; rfl
@[simp] theorem z_neI : fNe (.int i) (.int j) M = some (.bl (!decide (i = j))) := by
  simp only [fNe, deref, shp, and_self, if_true, deq]; rfl
@[simp] theorem z_eqB : fEq (.bl a) (.bl b) M = some (.bl (a == b)) := by
  simp only [fEq, deref, shp, and_self, if_true, deq]
@[simp] theorem z_neB : fNe (.bl a) (.bl b) M = some (.bl (!(a == b))) := by
  simp only [fNe, deref, shp, and_self, if_true, deq]
@[simp] theorem z_isN : fIs d .non M = some (.bl (isNon d)) := of_eq_true (eq_self _)
@[simp] theorem z_isB : fIs (.bl a) (.bl b) M = some (.bl (decide (a = b))) := of_eq_true (eq_self _)
@[simp] theorem z_isNotN : fIsNot d .non M = some (.bl (!isNon d)) := of_eq_true (eq_self _)
@[simp] theorem z_isNotB : fIsNot (.bl a) (.bl b) M = some (.bl (!decide (a = b))) := of_eq_true (eq_self _)
@[simp] theorem z_ixT : fIx (.tup xs) (.int i) M = L2.atI xs i := of_eq_true (eq_self _)
@[simp] theorem z_ixL : fIx (.lst xs) (.int i) M = L2.atI xs i := of_eq_true (eq_self _)
@[simp] theorem z_ixS : fIx (.scr xs) (.int i) M = L2.atI xs i := of_eq_true (eq_self _)
theorem z_ixR {p : Addr} (h : M p = some (.lst xs)) : fIx (.ref p) (.int i) M = L2.atI xs i := by
  simp [fIx, items, h]
@[simp] theorem z_at0 {α : Type} {x : α} {r : List α} : L2.atI (x :: r) 0 = some x := by simp [L2.atI, L2.ixN]
theorem z_atN {α : Type} (r : List α) (k : Nat) : L2.atI r (k : Int) = r[k]? := by
  unfold L2.atI L2.ixN
  rw [if_pos (by omega)]
  split
  · simp
  · rename_i h
    rw [List.getElem?_eq_none (by omega)]; rfl
@[simp] theorem z_atS {α : Type} {x : α} {r : List α} {n : Nat} : L2.atI (x :: r) ((n : Int) + 1) = L2.atI r (n : Int) := by
  rw [show (n : Int) + 1 = ((n + 1 : Nat) : Int) from rfl, z_atN, z_atN]; rfl
@[simp] theorem z_at1 {α : Type} {x y : α} {r : List α} : L2.atI (x :: y :: r) 1 = some y := by rw [show (1 : Int) = ((1 : Nat) : Int) from rfl, z_atN]; rfl
@[simp] theorem z_at2 {α : Type} {x y z : α} {r : List α} : L2.atI (x :: y :: z :: r) 2 = some z := by rw [show (2 : Int) = ((2 : Nat) : Int) from rfl, z_atN]; rfl
@[simp] theorem z_at3 {α : Type} {x y z u : α} {r : List α} : L2.atI (x :: y :: z :: u :: r) 3 = some u := by rw [show (3 : Int) = ((3 : Nat) : Int) from rfl, z_atN]; rfl
@[simp] theorem z_at4 {α : Type} {x y z u v : α} {r : List α} : L2.atI (x :: y :: z :: u :: v :: r) 4 = some v := by rw [show (4 : Int) = ((4 : Nat) : Int) from rfl, z_atN]; rfl
@[simp] theorem z_atL {α : Type} {x : α} {r : List α} : L2.atI (r ++ [x]) (-1) = some x := by
  unfold L2.atI L2.ixN
  simp
  rw [show (-1 + ((r.length : Int) + 1)).toNat = r.length by omega]
  split
  · simp
  · omega
@[simp] theorem z_lenT : gLen [.tup xs] M = some (.int xs.length) := of_eq_true (eq_self _)
@[simp] theorem z_lenL : gLen [.lst xs] M = some (.int xs.length) := of_eq_true (eq_self _)
@[simp] theorem z_lenS : gLen [.scr xs] M = some (.int xs.length) := of_eq_true (eq_self _)
theorem z_lenR {p : Addr} (h : M p = some (.lst xs)) : gLen [.ref p] M = some (.int xs.length) := by simp [gLen, items, h]
@[simp] theorem z_itT : items M (.tup xs) = some xs := of_eq_true (eq_self _)
@[simp] theorem z_itL : items M (.lst xs) = some xs := of_eq_true (eq_self _)
@[simp] theorem z_itS : items M (.scr xs) = some xs := of_eq_true (eq_self _)
theorem z_itR {p : Addr} (h : M p = some (.lst xs)) : items M (.ref p) = some xs := by simp [items, h]
@[simp] theorem z_okT : okOf (.tup xs) ys M = True := of_eq_true (eq_self _)
@[simp] theorem z_okL : okOf (.lst xs) ys M = True := of_eq_true (eq_self _)
@[simp] theorem z_okS : okOf (.scr xs) ys M = True := of_eq_true (eq_self _)
@[simp] theorem z_okR {p : Addr} : okOf (.ref p) ys M = (M p = some (.lst ys)) := of_eq_true (eq_self _)
@[simp] theorem z_alT : alikeSeq M (.tup xs) (.tup ys) = true := of_eq_true (eq_self _)
@[simp] theorem z_alL : alikeSeq M (.lst xs) (.lst ys) = true := of_eq_true (eq_self _)
@[simp] theorem z_int : gInt [.int i] M = some (.int i) := of_eq_true (eq_self _)
@[simp] theorem z_abs : gAbs [.int i] M = some (.int (if i < 0 then -i else i)) := of_eq_true (eq_self _)
@[simp] theorem z_max2 : gMax [.int i, .int j] M = some (.int (if j > i then j else i)) := of_eq_true (eq_self _)
@[simp] theorem z_min2 : gMin [.int i, .int j] M = some (.int (if j < i then j else i)) := of_eq_true (eq_self _)
@[simp] theorem z_tupT : gTuple [.tup xs] M = some (.tup xs) := of_eq_true (eq_self _)
@[simp] theorem z_tupL : gTuple [.lst xs] M = some (.tup xs) := of_eq_true (eq_self _)
theorem z_tupR {p : Addr} (h : M p = some (.lst xs)) : gTuple [.ref p] M = some (.tup xs) := by simp [gTuple, items, h]
@[simp] theorem z_allL : gAll [.lst xs] M = (flags xs).bind fun bs => some (.bl (bs.all fun b => b)) := of_eq_true (eq_self _)
@[simp] theorem z_anyL : gAny [.lst xs] M = (flags xs).bind fun bs => some (.bl (bs.any fun b => b)) := of_eq_true (eq_self _)
@[simp] theorem z_sumL : gSum [.lst xs] M = (nums xs).bind fun bs => some (.int bs.sum) := of_eq_true (eq_self _)
@[simp] theorem z_fl0 : flags [] = some [] := of_eq_true (eq_self _)
@[simp] theorem z_fl1 : flags (.bl a :: xs) = (flags xs).map (a :: ·) := of_eq_true (eq_self _)
theorem flags_map {α : Type} (f : α → Bool) : ∀ l : List α, flags (l.map fun x => D.bl (f x)) = some (l.map f)
  | [] => rfl
  | x :: r => by simp [flags_map f r]
theorem nums_map {α : Type} (f : α → Int) : ∀ l : List α, nums (l.map fun x => D.int (f x)) = some (l.map f)
  | [] => rfl
  | x :: r => by
    have := nums_map f r
    simp only [List.map_cons, nums, this, Option.map_some]
/-! isinstance -/
def tyOf : D → String
  | .non => "NoneType"
  | .bl _ => "bool"
  | .int _ => "int"
  | .str _ => "str"
  | .tup _ => "tuple"
  | .lst _ => "list"
  | .scr _ => "list"
  | _ => ""
@[simp] theorem z_isiI {n : String} (h : asked.contains n = true := by decide) : gIsi [.int i, .ty n] M = some (.bl (isiB "int" n)) := by simp only [gIsi, h, if_true, typeN, Option.map_some]
@[simp] theorem z_isiB {n : String} (h : asked.contains n = true := by decide) : gIsi [.bl a, .ty n] M = some (.bl (isiB "bool" n)) := by simp only [gIsi, h, if_true, typeN, Option.map_some]
@[simp] theorem z_isiN {n : String} (h : asked.contains n = true := by decide) : gIsi [.non, .ty n] M = some (.bl (isiB "NoneType" n)) := by simp only [gIsi, h, if_true, typeN, Option.map_some]
@[simp] theorem z_isiS {n : String} (h : asked.contains n = true := by decide) : gIsi [.str s, .ty n] M = some (.bl (isiB "str" n)) := by simp only [gIsi, h, if_true, typeN, Option.map_some]
@[simp] theorem z_isiT {n : String} (h : asked.contains n = true := by decide) : gIsi [.tup xs, .ty n] M = some (.bl (isiB "tuple" n)) := by simp only [gIsi, h, if_true, typeN, Option.map_some]
@[simp] theorem z_isiL {n : String} (h : asked.contains n = true := by decide) : gIsi [.lst xs, .ty n] M = some (.bl (isiB "list" n)) := by simp only [gIsi, h, if_true, typeN, Option.map_some]
@[simp] theorem z_ask1 : asked.contains "int" = true := by decide
@[simp] theorem z_ask2 : asked.contains "bool" = true := by decide
@[simp] theorem z_ask3 : asked.contains "str" = true := by decide
@[simp] theorem z_ask4 : asked.contains "tuple" = true := by decide
@[simp] theorem z_ask5 : asked.contains "list" = true := by decide
@[simp] theorem z_ask6 : asked.contains "dict" = true := by decide
theorem isi_eq {t n : String} : isiB t n = (t == n || (t == "bool" && n == "int")) := rfl
@[simp] theorem isi1 : isiB "int" "int" = true := by decide
@[simp] theorem isi2 : isiB "int" "bool" = false := by decide
@[simp] theorem isi3 : isiB "int" "tuple" = false := by decide
@[simp] theorem isi4 : isiB "int" "list" = false := by decide
@[simp] theorem isi5 : isiB "int" "str" = false := by decide
@[simp] theorem isi6 : isiB "bool" "int" = true := by decide
@[simp] theorem isi7 : isiB "bool" "bool" = true := by decide
@[simp] theorem isi8 : isiB "bool" "tuple" = false := by decide
@[simp] theorem isi9 : isiB "bool" "list" = false := by decide
@[simp] theorem isi10 : isiB "bool" "str" = false := by decide
@[simp] theorem isi11 : isiB "tuple" "tuple" = true := by decide
@[simp] theorem isi12 : isiB "tuple" "list" = false := by decide
@[simp] theorem isi13 : isiB "tuple" "int" = false := by decide
@[simp] theorem isi14 : isiB "tuple" "bool" = false := by decide
@[simp] theorem isi15 : isiB "tuple" "str" = false := by decide
@[simp] theorem isi16 : isiB "list" "list" = true := by decide
@[simp] theorem isi17 : isiB "list" "tuple" = false := by decide
@[simp] theorem isi18 : isiB "list" "int" = false := by decide
@[simp] theorem isi19 : isiB "list" "bool" = false := by decide
@[simp] theorem isi20 : isiB "list" "str" = false := by decide
@[simp] theorem isi21 : isiB "NoneType" "int" = false := by decide
@[simp] theorem isi22 : isiB "NoneType" "bool" = false := by decide
@[simp] theorem isi23 : isiB "NoneType" "tuple" = false := by decide
@[simp] theorem isi24 : isiB "NoneType" "list" = false := by decide
@[simp] theorem isi25 : isiB "NoneType" "str" = false := by decide
@[simp] theorem isi26 : isiB "str" "str" = true := by decide
@[simp] theorem isi27 : isiB "str" "int" = false := by decide
@[simp] theorem isi28 : isiB "str" "bool" = false := by decide
@[simp] theorem isi29 : isiB "str" "tuple" = false := by decide
@[simp] theorem isi30 : isiB "str" "list" = false := by decide
@[simp] theorem z_non1 : isNon .non = true := of_eq_true (eq_self _)
@[simp] theorem z_non2 : isNon (.bl a) = false := of_eq_true (eq_self _)
@[simp] theorem z_non3 : isNon (.int i) = false := of_eq_true (eq_self _)
@[simp] theorem z_non4 : isNon (.str s) = false := of_eq_true (eq_self _)
@[simp] theorem z_non5 : isNon (.tup xs) = false := of_eq_true (eq_self _)
@[simp] theorem z_non6 : isNon (.lst xs) = false := of_eq_true (eq_self _)
/-! slices -/
theorem cut_from (n : Nat) : cutD xs (some (n : Int)) none = xs.drop n := by
  unfold cutD
  simp only [HT.sIx]
  rw [if_neg (by omega)]
  by_cases h : n ≤ xs.length
  · rw [show min (n : Int).toNat xs.length = n by omega, List.take_of_length_le (by rw [List.length_drop]; omega)]
  · rw [show min (n : Int).toNat xs.length = xs.length by omega, List.drop_eq_nil_of_le (Nat.le_refl _), List.drop_eq_nil_of_le (by omega), List.take_nil]
theorem cut_to (n : Nat) : cutD xs none (some (n : Int)) = xs.take n := by
  unfold cutD
  simp only [HT.sIx]
  rw [if_neg (by omega), List.drop_zero, Nat.sub_zero]
  by_cases h : n ≤ xs.length
  · rw [show min (n : Int).toNat xs.length = n by omega]
  · rw [show min (n : Int).toNat xs.length = xs.length by omega, List.take_of_length_le (Nat.le_refl _), List.take_of_length_le (by omega)]
@[simp] theorem cut1 : cutD xs (some 1) none = xs.drop 1 := cut_from 1
@[simp] theorem z_partT {lo hi : Option Int} : part M (.tup xs) lo hi = some (.tup (cutD xs lo hi)) := of_eq_true (eq_self _)
@[simp] theorem z_partL {lo hi : Option Int} : part M (.lst xs) lo hi = some (.lst (cutD xs lo hi)) := of_eq_true (eq_self _)
@[simp] theorem z_partS {lo hi : Option Int} : part M (.scr xs) lo hi = some (.lst (cutD xs lo hi)) := of_eq_true (eq_self _)
end
end DL

/-! How long a text of data is; sums over lists; orders. -/
namespace DL
open PySem PySem.Spec PyProof.Rows L2
mutual
/-- a bound of the text's length -/
def wd : D → Nat
  | .int i => (toString i).length
  | .tup xs => 3 + wds xs
  | .lst xs => 3 + wds xs
  | .scr xs => 3 + wds xs
  | .str s => 10 * s.length + 2
  | _ => 5
def wds : List D → Nat
  | [] => 0
  | x :: xs => wd x + 2 + wds xs
end
theorem listText_le (ts : List Str) : (listText ts).length ≤ piled ts + 2 := by
  unfold listText
  rw [strLen_append]
  have e1 : ((("]" : String) : Str)).length = 1 := rfl
  rw [e1]
  cases ts with
  | nil => exact (show (1 : Nat) + 1 ≤ 0 + 2 by omega)
  | cons t r =>
    show (textFrom 1 _ r).length + 1 ≤ _
    rw [textFrom_length_pos r 1 _ (by decide), piled_cons, strLen_append, strLen_append]
    have e2 : ((("[" : String) : Str)).length = 1 := rfl
    have e3 : (((if (0 : Nat) > 0 then ", " else "" : String) : Str)).length = 0 := rfl
    rw [e2, e3]
    omega
theorem tupleText_le (ts : List Str) : (tupleText ts).length ≤ piled ts + 3 := by
  unfold tupleText
  rw [strLen_append, strLen_append]
  have e1 : ((("(" : String) : Str)).length = 1 := rfl
  have e3 : (((if ts.length == 1 then ",)" else ")" : String) : Str)).length ≤ 2 := by split <;> decide
  have e4 : (Str.join ", " ts).length ≤ piled ts := by
    cases ts with
    | nil => exact Nat.le_of_eq rfl
    | cons t r => have := join_length_add (t :: r) (by simp); omega
  rw [e1]
  omega
mutual
/-- plain data without text, nested at most n deep -/
def nst : Nat → D → Bool
  | _, .non => true
  | _, .bl _ => true
  | _, .int _ => true
  | n + 1, .tup xs => nsts n xs
  | n + 1, .lst xs => nsts n xs
  | _, _ => false
def nsts : Nat → List D → Bool
  | _, [] => true
  | n, x :: xs => nst n x && nsts n xs
end
mutual
theorem shown_wd : ∀ (n : Nat) (d : D), nst n d = true → (pyT d).shown.length ≤ wd d
  | _, .non, _ => by simp only [pyT, PyData.shown, wd]; decide
  | _, .bl b, _ => by simp only [pyT, PyData.shown, wd]; cases b <;> decide
  | _, .int i, _ => by
    simp only [pyT, PyData.shown, wd]
    exact Nat.le_of_eq (by
      show (Str.ofString (toString i)).length = _
      rw [PySem.ofString_length])
  | n + 1, .tup xs, h => by
    simp only [nst] at h
    simp only [pyT, PyData.shown, wd]
    have := shown_wds n xs h
    have := tupleText_le (PyData.shownAll (pyTs xs))
    omega
  | n + 1, .lst xs, h => by
    simp only [nst] at h
    simp only [pyT, PyData.shown, wd]
    have := shown_wds n xs h
    have := listText_le (PyData.shownAll (pyTs xs))
    omega
  | 0, .tup _, h => by simp [nst] at h
  | 0, .lst _, h => by simp [nst] at h
  | _, .scr _, h => by simp [nst] at h
  | _, .str _, h => by simp [nst] at h
  | _, .ref _, h => by simp [nst] at h
  | _, .ty _, h => by simp [nst] at h
theorem shown_wds : ∀ (n : Nat) (xs : List D), nsts n xs = true → piled (PyData.shownAll (pyTs xs)) ≤ wds xs
  | _, [], _ => by simp [pyTs, PyData.shownAll, wds, piled_nil]
  | n, x :: xs, h => by
    simp only [nsts, Bool.and_eq_true] at h
    simp only [pyTs, PyData.shownAll, wds, piled_cons]
    have := shown_wd n x h.1
    have := shown_wds n xs h.2
    omega
end
mutual
theorem nst_shp : ∀ (n : Nat) (d : D), nst n d = true → shp n d = true
  | _, .non, _ => by simp [shp]
  | _, .bl b, _ => by simp [shp]
  | _, .int i, _ => by simp [shp]
  | n + 1, .tup xs, h => by
    simp only [nst] at h
    simp only [shp]
    exact nsts_shp n xs h
  | n + 1, .lst xs, h => by
    simp only [nst] at h
    simp only [shp]
    exact nsts_shp n xs h
  | 0, .tup _, h => by simp [nst] at h
  | 0, .lst _, h => by simp [nst] at h
  | _, .scr _, h => by simp [nst] at h
  | _, .str _, h => by simp [nst] at h
  | _, .ref _, h => by simp [nst] at h
  | _, .ty _, h => by simp [nst] at h
theorem nsts_shp : ∀ (n : Nat) (xs : List D), nsts n xs = true → xs.all (shp n) = true
  | _, [], _ => rfl
  | n, x :: xs, h => by
    simp only [nsts, Bool.and_eq_true] at h
    simp only [List.all_cons, Bool.and_eq_true]
    exact ⟨nst_shp n x h.1, nsts_shp n xs h.2⟩
end
mutual
/-- ints of few digits only -/
def sml : D → Bool
  | .int i => decide (i.natAbs < 10 ^ 40)
  | .tup xs => smls xs
  | .lst xs => smls xs
  | .scr xs => smls xs
  | _ => true
def smls : List D → Bool
  | [] => true
  | x :: xs => sml x && smls xs
end
mutual
theorem sml_show : ∀ (n : Nat) (d : D), nst n d = true → sml d = true → (pyT d).showable = true
  | _, .non, _, _ => by simp [pyT, PyData.showable]
  | _, .bl b, _, _ => by simp [pyT, PyData.showable]
  | _, .int i, _, h => by
    simp only [sml, decide_eq_true_eq] at h
    simp only [pyT, PyData.showable, decide_eq_true_eq]
    by_cases h0 : i.natAbs = 0
    · rw [h0]; decide
    · exact (Nat.log2_lt h0).mpr (Nat.lt_trans h (by decide +kernel))
  | n + 1, .tup xs, h, q => by
    simp only [nst] at h
    simp only [sml] at q
    simp only [pyT, PyData.showable]
    exact smls_show n xs h q
  | n + 1, .lst xs, h, q => by
    simp only [nst] at h
    simp only [sml] at q
    simp only [pyT, PyData.showable]
    exact smls_show n xs h q
  | 0, .tup _, h, _ => by simp [nst] at h
  | 0, .lst _, h, _ => by simp [nst] at h
  | _, .scr _, h, _ => by simp [nst] at h
  | _, .str _, h, _ => by simp [nst] at h
  | _, .ref _, h, _ => by simp [nst] at h
  | _, .ty _, h, _ => by simp [nst] at h
theorem smls_show : ∀ (n : Nat) (xs : List D), nsts n xs = true → smls xs = true → PyData.showableAll (pyTs xs) = true
  | _, [], _, _ => by simp [pyTs, PyData.showableAll]
  | n, x :: xs, h, q => by
    simp only [nsts, Bool.and_eq_true] at h
    simp only [smls, Bool.and_eq_true] at q
    simp only [pyTs, PyData.showableAll, Bool.and_eq_true]
    exact ⟨sml_show n x h.1 q.1, smls_show n xs h.2 q.2⟩
end
theorem wd_int {i : Int} (h : i.natAbs < 10 ^ 40) : wd (.int i) ≤ 41 := by
  simp only [wd]
  exact int_text_length_le10 (by decide) h
/-- the text of plain small data -/
theorem repr_ok {n : Nat} {xs : List D} {M : Mp} (hn : n ≤ 63) (h : nsts n xs = true) (hs : smls xs = true) (hw : wds xs ≤ 16777000) :
    gRepr [.lst xs] M = some (.str (pyT (.lst xs)).shown) ∧ gRepr [.tup xs] M = some (.str (pyT (.tup xs)).shown) := by
  have hl : nst (n + 1) (.lst xs) = true := by simp only [nst]; exact h
  have ht : nst (n + 1) (.tup xs) = true := by simp only [nst]; exact h
  constructor
  · have a1 := shp_mono (show n + 1 ≤ 64 by omega) (nst_shp _ _ hl)
    have a2 := sml_show _ _ hl (by simp only [sml]; exact hs)
    have a3 := shown_wd _ _ hl
    simp only [wd] at a3
    have a4 : (pyT (.lst xs)).shown.length ≤ sizeLine := Nat.le_trans a3 (by unfold sizeLine; omega)
    show (if (shp 64 (.lst xs) && rprOk (pyT (.lst xs))) = true then _ else _) = _
    rw [if_pos]
    simp only [rprOk, a1, a2, a4, decide_true, Bool.and_self]
  · have a1 := shp_mono (show n + 1 ≤ 64 by omega) (nst_shp _ _ ht)
    have a2 := sml_show _ _ ht (by simp only [sml]; exact hs)
    have a3 := shown_wd _ _ ht
    simp only [wd] at a3
    have a4 : (pyT (.tup xs)).shown.length ≤ sizeLine := Nat.le_trans a3 (by unfold sizeLine; omega)
    show (if (shp 64 (.tup xs) && rprOk (pyT (.tup xs))) = true then _ else _) = _
    rw [if_pos]
    simp only [rprOk, a1, a2, a4, decide_true, Bool.and_self]
theorem wds_le {k : Nat} : ∀ xs : List D, (∀ x ∈ xs, wd x ≤ k) → wds xs ≤ (k + 2) * xs.length
  | [], _ => by simp [wds]
  | x :: xs, h => by
    have h1 := h x List.mem_cons_self
    have h2 := wds_le xs fun y hy => h y (List.mem_cons_of_mem _ hy)
    simp only [wds, List.length_cons]
    rw [Nat.mul_add, Nat.mul_one]
    omega
theorem nsts_of {n : Nat} : ∀ xs : List D, (∀ x ∈ xs, nst n x = true) → nsts n xs = true
  | [], _ => by simp [nsts]
  | x :: xs, h => by
    simp only [nsts, Bool.and_eq_true]
    exact ⟨h x List.mem_cons_self, nsts_of xs fun y hy => h y (List.mem_cons_of_mem _ hy)⟩
theorem smls_of : ∀ xs : List D, (∀ x ∈ xs, sml x = true) → smls xs = true
  | [], _ => by simp [smls]
  | x :: xs, h => by
    simp only [smls, Bool.and_eq_true]
    exact ⟨h x List.mem_cons_self, smls_of xs fun y hy => h y (List.mem_cons_of_mem _ hy)⟩
end DL

namespace K69
open PySem PySem.Spec PyProof.Rows L2 DL
def top (i : Nat) : Stmt := PySem.Challenge.pw_trackhouse_k69_whole_shut_gates.main.body.getD i (.Pass ⟨0, 0, 0, 0⟩)
abbrev s_is_integer : Stmt := top 1
abbrev s_is_within : Stmt := top 2
abbrev s_is_sized : Stmt := top 3
abbrev s_TrackError : Stmt := top 5
abbrev s_NoGate : Stmt := top 6
abbrev s_NoPassages : Stmt := top 7
abbrev s_NoTime : Stmt := top 8
abbrev s_is_gate : Stmt := top 14
abbrev s_is_passage : Stmt := top 15
abbrev s_are_passages : Stmt := top 16
abbrev s_check_gate : Stmt := top 17
abbrev s_raw_shut : Stmt := top 18
abbrev s_shut_times : Stmt := top 19
abbrev s_check_time : Stmt := top 20
abbrev s_is_shut : Stmt := top 21
abbrev s_shut_many : Stmt := top 22
abbrev s__law_hand : Stmt := top 24
abbrev s__law_draw : Stmt := top 25
abbrev s__law_any : Stmt := top 26
abbrev s__law_same : Stmt := top 27
abbrev s__law_gate : Stmt := top 28
abbrev s__law_passages : Stmt := top 29
abbrev s__law_shut : Stmt := top 30
abbrev s__law_is_right : Stmt := top 31
abbrev s_law : Stmt := top 32
structure Bs (K : PySem.W.Frag) (mg : Str → Option Value) : Prop where
  b_abs : mg "abs" = none
  b_all : mg "all" = none
  b_any : mg "any" = none
  b_bool : mg "bool" = none
  b_int : mg "int" = none
  b_isinstance : mg "isinstance" = none
  b_len : mg "len" = none
  b_list : mg "list" = none
  b_max : mg "max" = none
  b_range : mg "range" = none
  b_repr : mg "repr" = none
  b_set : mg "set" = none
  b_sorted : mg "sorted" = none
  b_sum : mg "sum" = none
  b_tuple : mg "tuple" = none
  b_zip : mg "zip" = none
  c_MOST_GATE : ∃ t, mg "MOST_GATE" = some (.int 1000 t)
  c_MOST_PASSAGES : ∃ t, mg "MOST_PASSAGES" = some (.int 40 t)
  c_MOST_TIME : ∃ t, mg "MOST_TIME" = some (.int 100000 t)
  c_MOST_TOLD : ∃ t, mg "MOST_TOLD" = some (.int 9999999999999999999999999999999999999999 t)
section
variable {P : Program} {w : World} {K : PySem.W.Frag} {mg : Str → Option Value} {base : Heap} {T : List (Addr × Str)} {k : Nat}
def t_is_integer : DS := (sRet (dAnd (dFn gIsi (dCons (dVar 0) (dCons (dC (.ty "int")) dNil))) (dNot (dFn gIsi (dCons (dVar 0) (dCons (dC (.ty "bool")) dNil))))))
theorem sc_is_integer : FnScope ["thing"] ["thing"] (defScope s_is_integer) := ⟨rfl, rfl, rfl, by decide +kernel, rfl, by decide +kernel, by decide +kernel⟩
theorem bn_is_integer : BindN "is_integer" s_is_integer ["thing"] := fun _ _ _ _ _ _ us hl => match us, hl with | [_], _ => rfl
theorem ok_is_integer {sp_is_integer : DSp} (B : Bs K mg) (Z : DefAt K mg "is_integer" s_is_integer) (len : ∀ ds M Q E, sp_is_integer ds M Q E → ds.length = 1) (mono : MonoP sp_is_integer)
    (rd : ∀ ds M Q E, sp_is_integer ds M Q E → t_is_integer (endF Q E) (startD ["thing"] ds) M) : FnX P w K mg base T (k + 1) "is_integer" ["thing"] sp_is_integer := by
  exact fnx_of Z sc_is_integer bn_is_integer len mono (t := t_is_integer) (fun f cdv A outer s H M E hr hg => (dss_one (ds_ret (de_and (dcb B.b_isinstance bb_isinstance cl_isi (da_cons (dvl 0) (da_cons (dty B.b_int bb_int) da_nil))) (de_one (de_not (dcb B.b_isinstance bb_isinstance cl_isi (da_cons (dvl 0) (da_cons (dty B.b_bool bb_bool) da_nil))))))))) rd
def t_is_within (sp_is_integer : DSp) : DS := (sRet (dAnd (dCall sp_is_integer (dCons (dVar 0) dNil)) (dChain fLeD fLeD (dVar 1) (dVar 0) (dVar 2))))
theorem sc_is_within : FnScope ["thing", "low", "high"] ["thing", "low", "high"] (defScope s_is_within) := ⟨rfl, rfl, rfl, by decide +kernel, rfl, by decide +kernel, by decide +kernel⟩
theorem bn_is_within : BindN "is_within" s_is_within ["thing", "low", "high"] := fun _ _ _ _ _ _ us hl => match us, hl with | [_, _, _], _ => rfl
theorem ok_is_within {sp_is_within : DSp} (B : Bs K mg) (Z : DefAt K mg "is_within" s_is_within) {sp_is_integer : DSp} (g_is_integer : FnX P w K mg base T k "is_integer" ["thing"] sp_is_integer) (len : ∀ ds M Q E, sp_is_within ds M Q E → ds.length = 3) (mono : MonoP sp_is_within)
    (rd : ∀ ds M Q E, sp_is_within ds M Q E → (t_is_within sp_is_integer) (endF Q E) (startD ["thing", "low", "high"] ds) M) : FnX P w K mg base T (k + 1) "is_within" ["thing", "low", "high"] sp_is_within := by
  have hkk : Nat.ble k k = true := Nat.ble_self_eq_true k
  exact fnx_of Z sc_is_within bn_is_within len mono (t := (t_is_within sp_is_integer)) (fun f cdv A outer s H M E hr hg => (dss_one (ds_ret (de_and (dcx g_is_integer (da_cons (dvl 0) da_nil) hkk) (de_one (de_chain dop_leD dop_leD (dvl 1) (dvl 0) (dvl 2))))))) rd
def t_is_sized : DS := (sRet (dAnd (dFn gIsi (dCons (dVar 0) (dCons (dC (.ty "tuple")) dNil))) (dChain fLeD fLeD (dVar 1) (dFn gLen (dCons (dVar 0) dNil)) (dVar 2))))
theorem sc_is_sized : FnScope ["thing", "low", "high"] ["thing", "low", "high"] (defScope s_is_sized) := ⟨rfl, rfl, rfl, by decide +kernel, rfl, by decide +kernel, by decide +kernel⟩
theorem bn_is_sized : BindN "is_sized" s_is_sized ["thing", "low", "high"] := fun _ _ _ _ _ _ us hl => match us, hl with | [_, _, _], _ => rfl
theorem ok_is_sized {sp_is_sized : DSp} (B : Bs K mg) (Z : DefAt K mg "is_sized" s_is_sized) (len : ∀ ds M Q E, sp_is_sized ds M Q E → ds.length = 3) (mono : MonoP sp_is_sized)
    (rd : ∀ ds M Q E, sp_is_sized ds M Q E → t_is_sized (endF Q E) (startD ["thing", "low", "high"] ds) M) : FnX P w K mg base T (k + 1) "is_sized" ["thing", "low", "high"] sp_is_sized := by
  exact fnx_of Z sc_is_sized bn_is_sized len mono (t := t_is_sized) (fun f cdv A outer s H M E hr hg => (dss_one (ds_ret (de_and (dcb B.b_isinstance bb_isinstance cl_isi (da_cons (dvl 0) (da_cons (dty B.b_tuple bb_tuple) da_nil))) (de_one (de_chain dop_leD dop_leD (dvl 1) (dcb B.b_len bb_len cl_len (da_cons (dvl 0) da_nil)) (dvl 2))))))) rd
def t_is_gate (sp_is_within sp_is_sized : DSp) : DS := (sRet (dAnd (dCall sp_is_sized (dCons (dVar 0) (dCons (dC (.int 3)) (dCons (dC (.int 3)) dNil)))) (dFn gAll (dCons (dComp (iSeq (dVar 0)) (gVar 1) tYesD (dCall sp_is_within (dCons (dVar 1) (dCons (dC (.int 0)) (dCons (dC (.int 1000)) dNil)))) [1]) dNil))))
theorem sc_is_gate : FnScope ["thing", "one"] ["thing"] (defScope s_is_gate) := ⟨rfl, rfl, rfl, by decide +kernel, rfl, by decide +kernel, by decide +kernel⟩
theorem bn_is_gate : BindN "is_gate" s_is_gate ["thing"] := fun _ _ _ _ _ _ us hl => match us, hl with | [_], _ => rfl
theorem ok_is_gate {sp_is_gate : DSp} (B : Bs K mg) (Z : DefAt K mg "is_gate" s_is_gate) {sp_is_within sp_is_sized : DSp} (g_is_within : FnX P w K mg base T k "is_within" ["thing", "low", "high"] sp_is_within) (g_is_sized : FnX P w K mg base T k "is_sized" ["thing", "low", "high"] sp_is_sized) (len : ∀ ds M Q E, sp_is_gate ds M Q E → ds.length = 1) (mono : MonoP sp_is_gate)
    (rd : ∀ ds M Q E, sp_is_gate ds M Q E → (t_is_gate sp_is_within sp_is_sized) (endF Q E) (startD ["thing", "one"] ds) M) : FnX P w K mg base T (k + 1) "is_gate" ["thing"] sp_is_gate := by
  have hkk : Nat.ble k k = true := Nat.ble_self_eq_true k
  exact fnx_of Z sc_is_gate bn_is_gate len mono (t := (t_is_gate sp_is_within sp_is_sized)) (fun f cdv A outer s H M E hr hg => (dss_one (ds_ret (de_and (dcx g_is_sized (da_cons (dvl 0) (da_cons de_int (da_cons de_int da_nil))) hkk) (de_one (dcb B.b_all bb_all (cl_all rfl) (da_cons (de_comp (own := [("one", 1)]) rfl (di_seq (dvl 0)) (blkOk_by (by kernel_rfl)) (fun _ _ _ _ _ => (dwl 1)) (fun _ _ _ _ _ => dts_nil) (fun _ _ _ _ _ => (dcx g_is_within (da_cons (dvl 1) (da_cons de_int (da_cons (dgi B.c_MOST_GATE) da_nil))) hkk))) da_nil))))))) rd
def t_is_passage (sp_is_within sp_is_sized : DSp) : DS := (sRet (dAnd (dCall sp_is_sized (dCons (dVar 0) (dCons (dC (.int 2)) (dCons (dC (.int 2)) dNil)))) (dAnd (dFn gAll (dCons (dComp (iSeq (dVar 0)) (gVar 1) tYesD (dCall sp_is_within (dCons (dVar 1) (dCons (dC (.int 0)) (dCons (dC (.int 100000)) dNil)))) [1]) dNil)) (dOp fLtD (dOp fIx (dVar 0) (dC (.int 0))) (dOp fIx (dVar 0) (dC (.int 1)))))))
theorem sc_is_passage : FnScope ["thing", "one"] ["thing"] (defScope s_is_passage) := ⟨rfl, rfl, rfl, by decide +kernel, rfl, by decide +kernel, by decide +kernel⟩
theorem bn_is_passage : BindN "is_passage" s_is_passage ["thing"] := fun _ _ _ _ _ _ us hl => match us, hl with | [_], _ => rfl
theorem ok_is_passage {sp_is_passage : DSp} (B : Bs K mg) (Z : DefAt K mg "is_passage" s_is_passage) {sp_is_within sp_is_sized : DSp} (g_is_within : FnX P w K mg base T k "is_within" ["thing", "low", "high"] sp_is_within) (g_is_sized : FnX P w K mg base T k "is_sized" ["thing", "low", "high"] sp_is_sized) (len : ∀ ds M Q E, sp_is_passage ds M Q E → ds.length = 1) (mono : MonoP sp_is_passage)
    (rd : ∀ ds M Q E, sp_is_passage ds M Q E → (t_is_passage sp_is_within sp_is_sized) (endF Q E) (startD ["thing", "one"] ds) M) : FnX P w K mg base T (k + 1) "is_passage" ["thing"] sp_is_passage := by
  have hkk : Nat.ble k k = true := Nat.ble_self_eq_true k
  exact fnx_of Z sc_is_passage bn_is_passage len mono (t := (t_is_passage sp_is_within sp_is_sized)) (fun f cdv A outer s H M E hr hg => (dss_one (ds_ret (de_and (dcx g_is_sized (da_cons (dvl 0) (da_cons de_int (da_cons de_int da_nil))) hkk) (de_and (dcb B.b_all bb_all (cl_all rfl) (da_cons (de_comp (own := [("one", 1)]) rfl (di_seq (dvl 0)) (blkOk_by (by kernel_rfl)) (fun _ _ _ _ _ => (dwl 1)) (fun _ _ _ _ _ => dts_nil) (fun _ _ _ _ _ => (dcx g_is_within (da_cons (dvl 1) (da_cons de_int (da_cons (dgi B.c_MOST_TIME) da_nil))) hkk))) da_nil)) (de_one (de_cmp dop_ltD (de_ix (dvl 0) de_int) (de_ix (dvl 0) de_int)))))))) rd
def t_are_passages (sp_is_sized sp_is_passage : DSp) : DS := (sSeq (sIf (tOr (tNot (tOf (dCall sp_is_sized (dCons (dVar 0) (dCons (dC (.int 1)) (dCons (dC (.int 40)) dNil)))))) (tNot (tOf (dFn gAll (dCons (dComp (iSeq (dVar 0)) (gVar 1) tYesD (dCall sp_is_passage (dCons (dVar 1) dNil)) [1]) dNil))))) (sRet (dC (.bl false))) sNext) (sRet (dFn gAll (dCons (dComp (iZip (dCons (dVar 0) (dCons (dPart (dVar 0) (oSome (dC (.int 1))) oNone) dNil))) (gTup 2 (gCons (gVar 1) (gCons (gVar 2) gNil))) tYesD (dOp fLtD (dVar 1) (dVar 2)) [1, 2]) dNil))))
theorem sc_are_passages : FnScope ["thing", "one", "other"] ["thing"] (defScope s_are_passages) := ⟨rfl, rfl, rfl, by decide +kernel, rfl, by decide +kernel, by decide +kernel⟩
theorem bn_are_passages : BindN "are_passages" s_are_passages ["thing"] := fun _ _ _ _ _ _ us hl => match us, hl with | [_], _ => rfl
theorem ok_are_passages {sp_are_passages : DSp} (B : Bs K mg) (Z : DefAt K mg "are_passages" s_are_passages) {sp_is_sized sp_is_passage : DSp} (g_is_sized : FnX P w K mg base T k "is_sized" ["thing", "low", "high"] sp_is_sized) (g_is_passage : FnX P w K mg base T k "is_passage" ["thing"] sp_is_passage) (len : ∀ ds M Q E, sp_are_passages ds M Q E → ds.length = 1) (mono : MonoP sp_are_passages)
    (rd : ∀ ds M Q E, sp_are_passages ds M Q E → (t_are_passages sp_is_sized sp_is_passage) (endF Q E) (startD ["thing", "one", "other"] ds) M) : FnX P w K mg base T (k + 1) "are_passages" ["thing"] sp_are_passages := by
  have hkk : Nat.ble k k = true := Nat.ble_self_eq_true k
  exact fnx_of Z sc_are_passages bn_are_passages len mono (t := (t_are_passages sp_is_sized sp_is_passage)) (fun f cdv A outer s H M E hr hg => (dss_cons (ds_if (dt_or (dt_not (dt_val (dcx g_is_sized (da_cons (dvl 0) (da_cons de_int (da_cons (dgi B.c_MOST_PASSAGES) da_nil))) hkk))) (dt_or1 (dt_not (dt_val (dcb B.b_all bb_all (cl_all rfl) (da_cons (de_comp (own := [("one", 1)]) rfl (di_seq (dvl 0)) (blkOk_by (by kernel_rfl)) (fun _ _ _ _ _ => (dwl 1)) (fun _ _ _ _ _ => dts_nil) (fun _ _ _ _ _ => (dcx g_is_passage (da_cons (dvl 1) da_nil) hkk))) da_nil)))))) (dss_one (ds_ret de_bl)) dss_nil) (dss_one (ds_ret (dcb B.b_all bb_all (cl_all rfl) (da_cons (de_comp (own := [("one", 1), ("other", 2)]) rfl (di_zip rfl B.b_zip (da_cons (dvl 0) (da_cons (de_part (dvl 0) (do_some de_int) do_none) da_nil))) (blkOk_by (by kernel_rfl)) (fun _ _ _ _ _ => (dw_tup rfl (dws_cons (dwl 1) (dws_cons (dwl 2) dws_nil)))) (fun _ _ _ _ _ => dts_nil) (fun _ _ _ _ _ => (de_cmp dop_ltD (dvl 1) (dvl 2)))) da_nil)))))) rd
def t_check_gate (sp_is_gate sp_are_passages : DSp) : DS := (sSeq (sIf (tNot (tOf (dCall sp_is_gate (dCons (dVar 0) dNil)))) sNever sNext) (sIf (tNot (tOf (dCall sp_are_passages (dCons (dVar 1) dNil)))) sNever sNext))
theorem sc_check_gate : FnScope ["gate", "passages"] ["gate", "passages"] (defScope s_check_gate) := ⟨rfl, rfl, rfl, by decide +kernel, rfl, by decide +kernel, by decide +kernel⟩
theorem bn_check_gate : BindN "check_gate" s_check_gate ["gate", "passages"] := fun _ _ _ _ _ _ us hl => match us, hl with | [_, _], _ => rfl
theorem ok_check_gate {sp_check_gate : DSp} (B : Bs K mg) (Z : DefAt K mg "check_gate" s_check_gate) {sp_is_gate sp_are_passages : DSp} (g_is_gate : FnX P w K mg base T k "is_gate" ["thing"] sp_is_gate) (g_are_passages : FnX P w K mg base T k "are_passages" ["thing"] sp_are_passages) (len : ∀ ds M Q E, sp_check_gate ds M Q E → ds.length = 2) (mono : MonoP sp_check_gate)
    (rd : ∀ ds M Q E, sp_check_gate ds M Q E → (t_check_gate sp_is_gate sp_are_passages) (endF Q E) (startD ["gate", "passages"] ds) M) : FnX P w K mg base T (k + 1) "check_gate" ["gate", "passages"] sp_check_gate := by
  have hkk : Nat.ble k k = true := Nat.ble_self_eq_true k
  exact fnx_of Z sc_check_gate bn_check_gate len mono (t := (t_check_gate sp_is_gate sp_are_passages)) (fun f cdv A outer s H M E hr hg => (dss_cons (ds_if (dt_not (dt_val (dcx g_is_gate (da_cons (dvl 0) da_nil) hkk))) (dss_one ds_never) dss_nil) (dss_one (ds_if (dt_not (dt_val (dcx g_are_passages (da_cons (dvl 1) da_nil) hkk))) (dss_one ds_never) dss_nil)))) rd
def t_raw_shut : DS := (sSeq (sAsg (dVar 0) (gTup 3 (gCons (gVar 2) (gCons (gVar 3) (gCons (gVar 4) gNil))))) (sSeq (sAsg (dLstM dNil) (gVar 5)) (sSeq (sFor (iSeq (dFn gSorted (dCons (dComp (iSeq (dVar 1)) (gTup 2 (gCons (gVar 6) (gCons (gVar 7) gNil))) tYesD (dTup (dCons (dFn gMax (dCons (dC (.int 0)) (dCons (dOp fSub (dVar 6) (dVar 2)) dNil))) (dCons (dOp fAdd (dVar 7) (dVar 3)) dNil))) [6, 7]) dNil))) (gTup 2 (gCons (gVar 6) (gCons (gVar 7) gNil))) (sIf (tAnd (tOf (dOp fGtD (dFn gLen (dCons (dVar 5) dNil)) (dC (.int 0)))) (tOr (tOf (dOp fLeD (dVar 6) (dOp fIx (dOp fIx (dVar 5) (dNeg (dC (.int 1)))) (dC (.int 1))))) (tOf (dOp fLtD (dOp fSub (dVar 6) (dOp fIx (dOp fIx (dVar 5) (dNeg (dC (.int 1)))) (dC (.int 1)))) (dVar 4))))) (sAsg (dTup (dCons (dOp fIx (dOp fIx (dVar 5) (dNeg (dC (.int 1)))) (dC (.int 0))) (dCons (dFn gMax (dCons (dOp fIx (dOp fIx (dVar 5) (dNeg (dC (.int 1)))) (dC (.int 1))) (dCons (dVar 7) dNil))) dNil))) (gSub (dVar 5) (dNeg (dC (.int 1))))) (sDrop (dMeth tyLst rApp (dVar 5) (dCons (dTup (dCons (dVar 6) (dCons (dVar 7) dNil))) dNil))))) (sRet (dVar 5)))))
theorem sc_raw_shut : FnScope ["gate", "passages", "lead", "lag", "gap", "found", "begin", "end"] ["gate", "passages"] (defScope s_raw_shut) := ⟨rfl, rfl, rfl, by decide +kernel, rfl, by decide +kernel, by decide +kernel⟩
theorem bn_raw_shut : BindN "raw_shut" s_raw_shut ["gate", "passages"] := fun _ _ _ _ _ _ us hl => match us, hl with | [_, _], _ => rfl
theorem ok_raw_shut {sp_raw_shut : DSp} (B : Bs K mg) (Z : DefAt K mg "raw_shut" s_raw_shut) (len : ∀ ds M Q E, sp_raw_shut ds M Q E → ds.length = 2) (mono : MonoP sp_raw_shut)
    (rd : ∀ ds M Q E, sp_raw_shut ds M Q E → t_raw_shut (endF Q E) (startD ["gate", "passages", "lead", "lag", "gap", "found", "begin", "end"] ds) M) : FnX P w K mg base T (k + 1) "raw_shut" ["gate", "passages"] sp_raw_shut := by
  exact fnx_of Z sc_raw_shut bn_raw_shut len mono (t := t_raw_shut) (fun f cdv A outer s H M E hr hg => (dss_cons (ds_asg (dvl 0) (dg_tup rfl (dgs_cons (dgc 2) (dgs_cons (dgc 3) (dgs_cons (dgl 4) dgs_nil))))) (dss_cons (dsl 5 (de_lstM da_nil)) (dss_cons (ds_for rfl (di_seq (dcb B.b_sorted bb_sorted cl_sorted (da_cons (de_comp (own := [("begin", 6), ("end", 7)]) rfl (di_seq (dvl 1)) (blkOk_by (by kernel_rfl)) (fun _ _ _ _ _ => (dw_tup rfl (dws_cons (dwl 6) (dws_cons (dwl 7) dws_nil)))) (fun _ _ _ _ _ => dts_nil) (fun _ _ _ _ _ => (de_tup (da_cons (dcb B.b_max bb_max (cl_max rfl) (da_cons de_int (da_cons (de_op dop_sub (dvl 6) (dvc 2)) da_nil))) (da_cons (de_op dop_add (dvl 7) (dvc 3)) da_nil))))) da_nil))) (dg_tup rfl (dgs_cons (dgl 6) (dgs_cons (dgl 7) dgs_nil))) (dss_one (ds_if (dt_and (dt_cmp dop_gtD (dcb B.b_len bb_len cl_len (da_cons (dvl 5) da_nil)) de_int) (dt_and1 (dt_or (dt_cmp dop_leD (dvl 6) (de_ix (de_ix (dvl 5) (de_neg de_int)) de_int)) (dt_or1 (dt_cmp dop_ltD (de_op dop_sub (dvl 6) (de_ix (de_ix (dvl 5) (de_neg de_int)) de_int)) (dvl 4)))))) (dss_one (ds_asg (de_tup (da_cons (de_ix (de_ix (dvl 5) (de_neg de_int)) de_int) (da_cons (dcb B.b_max bb_max (cl_max rfl) (da_cons (de_ix (de_ix (dvl 5) (de_neg de_int)) de_int) (da_cons (dvl 7) da_nil))) da_nil))) (dg_sub (dvl 5) (de_neg de_int)))) (dss_one (ds_expr (de_append (dvl 5) (da_cons (de_tup (da_cons (dvl 6) (da_cons (dvl 7) da_nil))) da_nil))))))) (dss_one (ds_ret (dvl 5))))))) rd
def t_shut_times (sp_check_gate sp_raw_shut : DSp) : DS := (sSeq (sDrop (dCall sp_check_gate (dCons (dVar 0) (dCons (dVar 1) dNil)))) (sRet (dFn gTuple (dCons (dCall sp_raw_shut (dCons (dVar 0) (dCons (dVar 1) dNil))) dNil))))
theorem sc_shut_times : FnScope ["gate", "passages"] ["gate", "passages"] (defScope s_shut_times) := ⟨rfl, rfl, rfl, by decide +kernel, rfl, by decide +kernel, by decide +kernel⟩
theorem bn_shut_times : BindN "shut_times" s_shut_times ["gate", "passages"] := fun _ _ _ _ _ _ us hl => match us, hl with | [_, _], _ => rfl
theorem ok_shut_times {sp_shut_times : DSp} (B : Bs K mg) (Z : DefAt K mg "shut_times" s_shut_times) {sp_check_gate sp_raw_shut : DSp} (g_check_gate : FnX P w K mg base T k "check_gate" ["gate", "passages"] sp_check_gate) (g_raw_shut : FnX P w K mg base T k "raw_shut" ["gate", "passages"] sp_raw_shut) (len : ∀ ds M Q E, sp_shut_times ds M Q E → ds.length = 2) (mono : MonoP sp_shut_times)
    (rd : ∀ ds M Q E, sp_shut_times ds M Q E → (t_shut_times sp_check_gate sp_raw_shut) (endF Q E) (startD ["gate", "passages"] ds) M) : FnX P w K mg base T (k + 1) "shut_times" ["gate", "passages"] sp_shut_times := by
  have hkk : Nat.ble k k = true := Nat.ble_self_eq_true k
  exact fnx_of Z sc_shut_times bn_shut_times len mono (t := (t_shut_times sp_check_gate sp_raw_shut)) (fun f cdv A outer s H M E hr hg => (dss_cons (ds_expr (dcx g_check_gate (da_cons (dvl 0) (da_cons (dvl 1) da_nil)) hkk)) (dss_one (ds_ret (dct B.b_tuple bb_tuple cl_tuple (da_cons (dcx g_raw_shut (da_cons (dvl 0) (da_cons (dvl 1) da_nil)) hkk) da_nil)))))) rd
def t_check_time (sp_is_within : DSp) : DS := (sIf (tNot (tOf (dCall sp_is_within (dCons (dVar 0) (dCons (dC (.int 0)) (dCons (dC (.int 9999999999999999999999999999999999999999)) dNil)))))) sNever sNext)
theorem sc_check_time : FnScope ["time"] ["time"] (defScope s_check_time) := ⟨rfl, rfl, rfl, by decide +kernel, rfl, by decide +kernel, by decide +kernel⟩
theorem bn_check_time : BindN "check_time" s_check_time ["time"] := fun _ _ _ _ _ _ us hl => match us, hl with | [_], _ => rfl
theorem ok_check_time {sp_check_time : DSp} (B : Bs K mg) (Z : DefAt K mg "check_time" s_check_time) {sp_is_within : DSp} (g_is_within : FnX P w K mg base T k "is_within" ["thing", "low", "high"] sp_is_within) (len : ∀ ds M Q E, sp_check_time ds M Q E → ds.length = 1) (mono : MonoP sp_check_time)
    (rd : ∀ ds M Q E, sp_check_time ds M Q E → (t_check_time sp_is_within) (endF Q E) (startD ["time"] ds) M) : FnX P w K mg base T (k + 1) "check_time" ["time"] sp_check_time := by
  have hkk : Nat.ble k k = true := Nat.ble_self_eq_true k
  exact fnx_of Z sc_check_time bn_check_time len mono (t := (t_check_time sp_is_within)) (fun f cdv A outer s H M E hr hg => (dss_one (ds_if (dt_not (dt_val (dcx g_is_within (da_cons (dvl 0) (da_cons de_int (da_cons (dgi B.c_MOST_TOLD) da_nil))) hkk))) (dss_one ds_never) dss_nil))) rd
def t_is_shut (sp_check_gate sp_raw_shut sp_check_time : DSp) : DS := (sSeq (sDrop (dCall sp_check_gate (dCons (dVar 0) (dCons (dVar 1) dNil)))) (sSeq (sDrop (dCall sp_check_time (dCons (dVar 2) dNil))) (sRet (dFn gAny (dCons (dComp (iSeq (dCall sp_raw_shut (dCons (dVar 0) (dCons (dVar 1) dNil)))) (gTup 2 (gCons (gVar 3) (gCons (gVar 4) gNil))) tYesD (dChain fLeD fLtD (dVar 3) (dVar 2) (dVar 4)) [3, 4]) dNil)))))
theorem sc_is_shut : FnScope ["gate", "passages", "time", "begin", "end"] ["gate", "passages", "time"] (defScope s_is_shut) := ⟨rfl, rfl, rfl, by decide +kernel, rfl, by decide +kernel, by decide +kernel⟩
theorem bn_is_shut : BindN "is_shut" s_is_shut ["gate", "passages", "time"] := fun _ _ _ _ _ _ us hl => match us, hl with | [_, _, _], _ => rfl
theorem ok_is_shut {sp_is_shut : DSp} (B : Bs K mg) (Z : DefAt K mg "is_shut" s_is_shut) {sp_check_gate sp_raw_shut sp_check_time : DSp} (g_check_gate : FnX P w K mg base T k "check_gate" ["gate", "passages"] sp_check_gate) (g_raw_shut : FnX P w K mg base T k "raw_shut" ["gate", "passages"] sp_raw_shut) (g_check_time : FnX P w K mg base T k "check_time" ["time"] sp_check_time) (len : ∀ ds M Q E, sp_is_shut ds M Q E → ds.length = 3) (mono : MonoP sp_is_shut)
    (rd : ∀ ds M Q E, sp_is_shut ds M Q E → (t_is_shut sp_check_gate sp_raw_shut sp_check_time) (endF Q E) (startD ["gate", "passages", "time", "begin", "end"] ds) M) : FnX P w K mg base T (k + 1) "is_shut" ["gate", "passages", "time"] sp_is_shut := by
  have hkk : Nat.ble k k = true := Nat.ble_self_eq_true k
  exact fnx_of Z sc_is_shut bn_is_shut len mono (t := (t_is_shut sp_check_gate sp_raw_shut sp_check_time)) (fun f cdv A outer s H M E hr hg => (dss_cons (ds_expr (dcx g_check_gate (da_cons (dvl 0) (da_cons (dvl 1) da_nil)) hkk)) (dss_cons (ds_expr (dcx g_check_time (da_cons (dvc 2) da_nil) hkk)) (dss_one (ds_ret (dcb B.b_any bb_any (cl_any rfl) (da_cons (de_comp (own := [("begin", 3), ("end", 4)]) rfl (di_seq (dcx g_raw_shut (da_cons (dvl 0) (da_cons (dvl 1) da_nil)) hkk)) (blkOk_by (by kernel_rfl)) (fun _ _ _ _ _ => (dw_tup rfl (dws_cons (dwl 3) (dws_cons (dwl 4) dws_nil)))) (fun _ _ _ _ _ => dts_nil) (fun _ _ _ _ _ => (de_chain dop_leD dop_ltD (dvl 3) (dvc 2) (dvl 4)))) da_nil))))))) rd
def t_shut_many (sp_check_gate sp_raw_shut : DSp) : DS := (sSeq (sDrop (dCall sp_check_gate (dCons (dVar 0) (dCons (dVar 1) dNil)))) (sSeq (sAsg (dCall sp_raw_shut (dCons (dVar 0) (dCons (dVar 1) dNil))) (gVar 2)) (sRet (dTup (dCons (dFn gLen (dCons (dVar 2) dNil)) (dCons (dFn gSum (dCons (dComp (iSeq (dVar 2)) (gTup 2 (gCons (gVar 3) (gCons (gVar 4) gNil))) tYesD (dOp fSub (dVar 4) (dVar 3)) [3, 4]) dNil)) dNil))))))
theorem sc_shut_many : FnScope ["gate", "passages", "rows", "begin", "end"] ["gate", "passages"] (defScope s_shut_many) := ⟨rfl, rfl, rfl, by decide +kernel, rfl, by decide +kernel, by decide +kernel⟩
theorem bn_shut_many : BindN "shut_many" s_shut_many ["gate", "passages"] := fun _ _ _ _ _ _ us hl => match us, hl with | [_, _], _ => rfl
theorem ok_shut_many {sp_shut_many : DSp} (B : Bs K mg) (Z : DefAt K mg "shut_many" s_shut_many) {sp_check_gate sp_raw_shut : DSp} (g_check_gate : FnX P w K mg base T k "check_gate" ["gate", "passages"] sp_check_gate) (g_raw_shut : FnX P w K mg base T k "raw_shut" ["gate", "passages"] sp_raw_shut) (len : ∀ ds M Q E, sp_shut_many ds M Q E → ds.length = 2) (mono : MonoP sp_shut_many)
    (rd : ∀ ds M Q E, sp_shut_many ds M Q E → (t_shut_many sp_check_gate sp_raw_shut) (endF Q E) (startD ["gate", "passages", "rows", "begin", "end"] ds) M) : FnX P w K mg base T (k + 1) "shut_many" ["gate", "passages"] sp_shut_many := by
  have hkk : Nat.ble k k = true := Nat.ble_self_eq_true k
  exact fnx_of Z sc_shut_many bn_shut_many len mono (t := (t_shut_many sp_check_gate sp_raw_shut)) (fun f cdv A outer s H M E hr hg => (dss_cons (ds_expr (dcx g_check_gate (da_cons (dvl 0) (da_cons (dvl 1) da_nil)) hkk)) (dss_cons (dsl 2 (dcx g_raw_shut (da_cons (dvl 0) (da_cons (dvl 1) da_nil)) hkk)) (dss_one (ds_ret (de_tup (da_cons (dcb B.b_len bb_len cl_len (da_cons (dvl 2) da_nil)) (da_cons (dcb B.b_sum bb_sum (cl_sum rfl) (da_cons (de_comp (own := [("begin", 3), ("end", 4)]) rfl (di_seq (dvl 2)) (blkOk_by (by kernel_rfl)) (fun _ _ _ _ _ => (dw_tup rfl (dws_cons (dwl 3) (dws_cons (dwl 4) dws_nil)))) (fun _ _ _ _ _ => dts_nil) (fun _ _ _ _ _ => (de_op dop_sub (dvl 4) (dvl 3)))) da_nil)) da_nil)))))))) rd
def t__law_hand : DS := (sSeq (sAsg (dComp (iSeq (dPart (dVar 0) oNone (oSome (dC (.int 63))))) (gVar 2) tYesD (dFn gAbs (dCons (dFn gInt (dCons (dVar 2) dNil)) dNil)) [2]) (gVar 1)) (sRet (dLstM (dCons (dVar 1) (dCons (dC (.int 0)) (dCons (dC (.int 0)) (dCons (dOp fAdd (dC (.int 1733)) (dOp fMul (dC (.int 61)) (dFn gLen (dCons (dVar 1) dNil)))) (dCons (dC (.int 0)) dNil))))))))
theorem sc__law_hand : FnScope ["script", "cells", "cell"] ["script"] (defScope s__law_hand) := ⟨rfl, rfl, rfl, by decide +kernel, rfl, by decide +kernel, by decide +kernel⟩
theorem bn__law_hand : BindN "_law_hand" s__law_hand ["script"] := fun _ _ _ _ _ _ us hl => match us, hl with | [_], _ => rfl
theorem ok__law_hand {sp__law_hand : DSp} (B : Bs K mg) (Z : DefAt K mg "_law_hand" s__law_hand) (len : ∀ ds M Q E, sp__law_hand ds M Q E → ds.length = 1) (mono : MonoP sp__law_hand)
    (rd : ∀ ds M Q E, sp__law_hand ds M Q E → t__law_hand (endF Q E) (startD ["script", "cells", "cell"] ds) M) : FnX P w K mg base T (k + 1) "_law_hand" ["script"] sp__law_hand := by
  exact fnx_of Z sc__law_hand bn__law_hand len mono (t := t__law_hand) (fun f cdv A outer s H M E hr hg => (dss_cons (ds_comp (own := [("cell", 2)]) (i := 1) rfl rfl rfl (sw_true rfl rfl rfl rfl) (di_seq (de_part (dvl 0) do_none (do_some de_int))) (blkOk_by (by kernel_rfl)) (fun _ _ _ _ _ => (dwl 2)) (fun _ _ _ _ _ => dts_nil) (fun _ _ _ _ _ => (dcb B.b_abs bb_abs cl_abs (da_cons (dct B.b_int bb_int cl_int (da_cons (dvl 2) da_nil)) da_nil)))) (dss_one (ds_ret (de_lstM (da_cons (dvl 1) (da_cons de_int (da_cons de_int (da_cons (de_op dop_add de_int (de_op dop_mul2 de_int (dcb B.b_len bb_len cl_len (da_cons (dvl 1) da_nil)))) (da_cons de_int da_nil)))))))))) rd
def t__law_draw : DS := (sSeq (sIf (tAnd (tOf (dOp fEq (dOp fIx (dVar 0) (dC (.int 2))) (dC (.int 0)))) (tOf (dOp fLtD (dOp fIx (dVar 0) (dC (.int 1))) (dFn gLen (dCons (dOp fIx (dVar 0) (dC (.int 0))) dNil))))) (sSeq (sAsg (dOp fIx (dOp fIx (dVar 0) (dC (.int 0))) (dOp fIx (dVar 0) (dC (.int 1)))) (gVar 2)) (sSeq (sAsg (dOp fAdd (dOp fIx (dVar 0) (dC (.int 1))) (dC (.int 1))) (gSub (dVar 0) (dC (.int 1)))) (sSeq (sAsg (dOp fMod (dFn gInt (dCons (dOp fAdd (dOp fAdd (dOp fMul (dOp fIx (dVar 0) (dC (.int 3))) (dC (.int 69621))) (dOp fMul (dVar 2) (dC (.int 48271)))) (dC (.int 17))) dNil)) (dC (.int 2147483629))) (gSub (dVar 0) (dC (.int 3)))) (sIf (tOf (dOp fGeD (dVar 2) (dOp fPow (dC (.int 10)) (dC (.int 18))))) (sAsg (dVar 2) (gSub (dVar 0) (dC (.int 2)))) sNext)))) sNext) (sSeq (sIf (tOf (dOp fGtD (dOp fIx (dVar 0) (dC (.int 2))) (dC (.int 0)))) (sSeq (sAsg (dOp fMod (dFn gInt (dCons (dOp fIx (dVar 0) (dC (.int 2))) dNil)) (dVar 1)) (gVar 3)) (sSeq (sAsg (dOp fDiv (dOp fIx (dVar 0) (dC (.int 2))) (dVar 1)) (gSub (dVar 0) (dC (.int 2)))) (sRet (dVar 3)))) sNext) (sSeq (sAsg (dOp fAdd (dOp fIx (dVar 0) (dC (.int 4))) (dC (.int 1))) (gSub (dVar 0) (dC (.int 4)))) (sSeq (sAsg (dOp fMod (dFn gInt (dCons (dOp fMul (dFn gInt (dCons (dOp fAdd (dOp fIx (dVar 0) (dC (.int 3))) (dOp fMul (dC (.int 7919)) (dOp fIx (dVar 0) (dC (.int 4))))) dNil)) (dC (.int 40692))) dNil)) (dC (.int 2147483647))) (gVar 4)) (sSeq (sAsg (dOp fMod (dFn gInt (dCons (dOp fMul (dVar 4) (dOp fAdd (dOp fDiv (dVar 4) (dC (.int 1009))) (dC (.int 69621)))) dNil)) (dC (.int 2147483647))) (gVar 4)) (sSeq (sAsg (dOp fMod (dFn gInt (dCons (dOp fMul (dVar 4) (dOp fAdd (dOp fDiv (dVar 4) (dC (.int 2003))) (dC (.int 40014)))) dNil)) (dC (.int 2147483563))) (gVar 4)) (sRet (dOp fMod (dFn gInt (dCons (dOp fDiv (dVar 4) (dC (.int 16))) dNil)) (dVar 1)))))))))
theorem sc__law_draw : FnScope ["hand", "many", "cell", "digit", "number"] ["hand", "many"] (defScope s__law_draw) := ⟨rfl, rfl, rfl, by decide +kernel, rfl, by decide +kernel, by decide +kernel⟩
theorem bn__law_draw : BindN "_law_draw" s__law_draw ["hand", "many"] := fun _ _ _ _ _ _ us hl => match us, hl with | [_, _], _ => rfl
theorem ok__law_draw {sp__law_draw : DSp} (B : Bs K mg) (Z : DefAt K mg "_law_draw" s__law_draw) (len : ∀ ds M Q E, sp__law_draw ds M Q E → ds.length = 2) (mono : MonoP sp__law_draw)
    (rd : ∀ ds M Q E, sp__law_draw ds M Q E → t__law_draw (endF Q E) (startD ["hand", "many", "cell", "digit", "number"] ds) M) : FnX P w K mg base T (k + 1) "_law_draw" ["hand", "many"] sp__law_draw := by
  exact fnx_of Z sc__law_draw bn__law_draw len mono (t := t__law_draw) (fun f cdv A outer s H M E hr hg => (dss_cons (ds_if (dt_and (dt_cmp dop_eq (de_ix (dvl 0) de_int) de_int) (dt_and1 (dt_cmp dop_ltD (de_ix (dvl 0) de_int) (dcb B.b_len bb_len cl_len (da_cons (de_ix (dvl 0) de_int) da_nil))))) (dss_cons (dsl 2 (de_ix (de_ix (dvl 0) de_int) (de_ix (dvl 0) de_int))) (dss_cons (ds_asg (de_op dop_add (de_ix (dvl 0) de_int) de_int) (dg_sub (dvl 0) de_int)) (dss_cons (ds_asg (de_op dop_mod (dct B.b_int bb_int cl_int (da_cons (de_op dop_add (de_op dop_add (de_op dop_mul2 (de_ix (dvl 0) de_int) de_int) (de_op dop_mul2 (dvl 2) de_int)) de_int) da_nil)) de_int) (dg_sub (dvl 0) de_int)) (dss_one (ds_if (dt_cmp dop_geD (dvl 2) (de_op dop_pow de_int de_int)) (dss_one (ds_asg (dvl 2) (dg_sub (dvl 0) de_int))) dss_nil))))) dss_nil) (dss_cons (ds_if (dt_cmp dop_gtD (de_ix (dvl 0) de_int) de_int) (dss_cons (dsl 3 (de_op dop_mod (dct B.b_int bb_int cl_int (da_cons (de_ix (dvl 0) de_int) da_nil)) (dvl 1))) (dss_cons (ds_asg (de_op dop_div (de_ix (dvl 0) de_int) (dvl 1)) (dg_sub (dvl 0) de_int)) (dss_one (ds_ret (dvl 3))))) dss_nil) (dss_cons (ds_asg (de_op dop_add (de_ix (dvl 0) de_int) de_int) (dg_sub (dvl 0) de_int)) (dss_cons (dsl 4 (de_op dop_mod (dct B.b_int bb_int cl_int (da_cons (de_op dop_mul2 (dct B.b_int bb_int cl_int (da_cons (de_op dop_add (de_ix (dvl 0) de_int) (de_op dop_mul2 de_int (de_ix (dvl 0) de_int))) da_nil)) de_int) da_nil)) de_int)) (dss_cons (dsl 4 (de_op dop_mod (dct B.b_int bb_int cl_int (da_cons (de_op dop_mul2 (dvl 4) (de_op dop_add (de_op dop_div (dvl 4) de_int) de_int)) da_nil)) de_int)) (dss_cons (dsl 4 (de_op dop_mod (dct B.b_int bb_int cl_int (da_cons (de_op dop_mul2 (dvl 4) (de_op dop_add (de_op dop_div (dvl 4) de_int) de_int)) da_nil)) de_int)) (dss_one (ds_ret (de_op dop_mod (dct B.b_int bb_int cl_int (da_cons (de_op dop_div (dvl 4) de_int) da_nil)) (dvl 1))))))))))) rd
def t__law_any (sp__law_draw : DSp) : DS := (sRet (dOp fIx (dVar 1) (dCall sp__law_draw (dCons (dVar 0) (dCons (dFn gLen (dCons (dVar 1) dNil)) dNil)))))
theorem sc__law_any : FnScope ["hand", "some"] ["hand", "some"] (defScope s__law_any) := ⟨rfl, rfl, rfl, by decide +kernel, rfl, by decide +kernel, by decide +kernel⟩
theorem bn__law_any : BindN "_law_any" s__law_any ["hand", "some"] := fun _ _ _ _ _ _ us hl => match us, hl with | [_, _], _ => rfl
theorem ok__law_any {sp__law_any : DSp} (B : Bs K mg) (Z : DefAt K mg "_law_any" s__law_any) {sp__law_draw : DSp} (g__law_draw : FnX P w K mg base T k "_law_draw" ["hand", "many"] sp__law_draw) (len : ∀ ds M Q E, sp__law_any ds M Q E → ds.length = 2) (mono : MonoP sp__law_any)
    (rd : ∀ ds M Q E, sp__law_any ds M Q E → (t__law_any sp__law_draw) (endF Q E) (startD ["hand", "some"] ds) M) : FnX P w K mg base T (k + 1) "_law_any" ["hand", "some"] sp__law_any := by
  have hkk : Nat.ble k k = true := Nat.ble_self_eq_true k
  exact fnx_of Z sc__law_any bn__law_any len mono (t := (t__law_any sp__law_draw)) (fun f cdv A outer s H M E hr hg => (dss_one (ds_ret (de_ix (dvl 1) (dcx g__law_draw (da_cons (dvl 0) (da_cons (dcb B.b_len bb_len cl_len (da_cons (dvl 1) da_nil)) da_nil)) hkk))))) rd
def t__law_same (sp__law_same : DSp) : DS := (sSeq (sIf (tOr (tOf (dFn gIsi (dCons (dVar 1) (dCons (dC (.ty "tuple")) dNil)))) (tOf (dFn gIsi (dCons (dVar 1) (dCons (dC (.ty "list")) dNil))))) (sSeq (sIf (tOr (tOf (dOp fNe (dFn gIsi (dCons (dVar 0) (dCons (dC (.ty "tuple")) dNil))) (dFn gIsi (dCons (dVar 1) (dCons (dC (.ty "tuple")) dNil))))) (tOf (dOp fNe (dFn gIsi (dCons (dVar 0) (dCons (dC (.ty "list")) dNil))) (dFn gIsi (dCons (dVar 1) (dCons (dC (.ty "list")) dNil)))))) (sRet (dC (.bl false))) sNext) (sRet (dAnd (dOp fEq (dFn gLen (dCons (dVar 0) dNil)) (dFn gLen (dCons (dVar 1) dNil))) (dFn gAll (dCons (dComp (iZip (dCons (dVar 0) (dCons (dVar 1) dNil))) (gTup 2 (gCons (gVar 2) (gCons (gVar 3) gNil))) tYesD (dCall sp__law_same (dCons (dVar 2) (dCons (dVar 3) dNil))) [2, 3]) dNil))))) sNext) (sSeq (sIf (tOr (tOf (dOp fNe (dFn gIsi (dCons (dVar 0) (dCons (dC (.ty "bool")) dNil))) (dFn gIsi (dCons (dVar 1) (dCons (dC (.ty "bool")) dNil))))) (tOf (dOp fNe (dOp fIs (dVar 0) (dC .non)) (dOp fIs (dVar 1) (dC .non))))) (sRet (dC (.bl false))) sNext) (sRet (dAnd (dOp fEq (dFn gIsi (dCons (dVar 0) (dCons (dC (.ty "int")) dNil))) (dFn gIsi (dCons (dVar 1) (dCons (dC (.ty "int")) dNil)))) (dOp fEq (dVar 0) (dVar 1))))))
theorem sc__law_same : FnScope ["one", "due", "a", "b"] ["one", "due"] (defScope s__law_same) := ⟨rfl, rfl, rfl, by decide +kernel, rfl, by decide +kernel, by decide +kernel⟩
theorem bn__law_same : BindN "_law_same" s__law_same ["one", "due"] := fun _ _ _ _ _ _ us hl => match us, hl with | [_, _], _ => rfl
theorem ok__law_same {sp : DSp} (B : Bs K mg) (Z : DefAt K mg "_law_same" s__law_same) {sp__law_same : DSp} (g__law_same : FnX P w K mg base T k "_law_same" ["one", "due"] sp__law_same) (len : ∀ ds M Q E, sp ds M Q E → ds.length = 2) (mono : MonoP sp)
    (rd : ∀ ds M Q E, sp ds M Q E → (t__law_same sp__law_same) (endF Q E) (startD ["one", "due", "a", "b"] ds) M) : FnX P w K mg base T (k + 1) "_law_same" ["one", "due"] sp := by
  have hkk : Nat.ble k k = true := Nat.ble_self_eq_true k
  exact fnx_of Z sc__law_same bn__law_same len mono (t := (t__law_same sp__law_same)) (fun f cdv A outer s H M E hr hg => (dss_cons (ds_if (dt_or (dt_val (dcb B.b_isinstance bb_isinstance cl_isi (da_cons (dvl 1) (da_cons (dty B.b_tuple bb_tuple) da_nil)))) (dt_or1 (dt_val (dcb B.b_isinstance bb_isinstance cl_isi (da_cons (dvl 1) (da_cons (dty B.b_list bb_list) da_nil)))))) (dss_cons (ds_if (dt_or (dt_cmp dop_ne (dcb B.b_isinstance bb_isinstance cl_isi (da_cons (dvl 0) (da_cons (dty B.b_tuple bb_tuple) da_nil))) (dcb B.b_isinstance bb_isinstance cl_isi (da_cons (dvl 1) (da_cons (dty B.b_tuple bb_tuple) da_nil)))) (dt_or1 (dt_cmp dop_ne (dcb B.b_isinstance bb_isinstance cl_isi (da_cons (dvl 0) (da_cons (dty B.b_list bb_list) da_nil))) (dcb B.b_isinstance bb_isinstance cl_isi (da_cons (dvl 1) (da_cons (dty B.b_list bb_list) da_nil)))))) (dss_one (ds_ret de_bl)) dss_nil) (dss_one (ds_ret (de_and (de_cmp dop_eq (dcb B.b_len bb_len cl_len (da_cons (dvl 0) da_nil)) (dcb B.b_len bb_len cl_len (da_cons (dvl 1) da_nil))) (de_one (dcb B.b_all bb_all (cl_all rfl) (da_cons (de_comp (own := [("a", 2), ("b", 3)]) rfl (di_zip rfl B.b_zip (da_cons (dvl 0) (da_cons (dvl 1) da_nil))) (blkOk_by (by kernel_rfl)) (fun _ _ _ _ _ => (dw_tup rfl (dws_cons (dwl 2) (dws_cons (dwl 3) dws_nil)))) (fun _ _ _ _ _ => dts_nil) (fun _ _ _ _ _ => (dcx g__law_same (da_cons (dvl 2) (da_cons (dvl 3) da_nil)) hkk))) da_nil))))))) dss_nil) (dss_cons (ds_if (dt_or (dt_cmp dop_ne (dcb B.b_isinstance bb_isinstance cl_isi (da_cons (dvl 0) (da_cons (dty B.b_bool bb_bool) da_nil))) (dcb B.b_isinstance bb_isinstance cl_isi (da_cons (dvl 1) (da_cons (dty B.b_bool bb_bool) da_nil)))) (dt_or1 (dt_cmp dop_ne (de_cmp dop_is (dvl 0) de_non) (de_cmp dop_is (dvl 1) de_non)))) (dss_one (ds_ret de_bl)) dss_nil) (dss_one (ds_ret (de_and (de_cmp dop_eq (dcb B.b_isinstance bb_isinstance cl_isi (da_cons (dvl 0) (da_cons (dty B.b_int bb_int) da_nil))) (dcb B.b_isinstance bb_isinstance cl_isi (da_cons (dvl 1) (da_cons (dty B.b_int bb_int) da_nil)))) (de_one (de_cmp dop_eq (dvl 0) (dvl 1))))))))) rd
def t__law_gate (sp__law_draw sp__law_any : DSp) : DS := (sRet (dTup (dCons (dCall sp__law_draw (dCons (dVar 0) (dCons (dCall sp__law_any (dCons (dVar 0) (dCons (dLst (dCons (dC (.int 1)) (dCons (dC (.int 4)) (dCons (dC (.int 20)) dNil)))) dNil))) dNil))) (dCons (dCall sp__law_draw (dCons (dVar 0) (dCons (dCall sp__law_any (dCons (dVar 0) (dCons (dLst (dCons (dC (.int 1)) (dCons (dC (.int 4)) (dCons (dC (.int 20)) dNil)))) dNil))) dNil))) (dCons (dCall sp__law_draw (dCons (dVar 0) (dCons (dCall sp__law_any (dCons (dVar 0) (dCons (dLst (dCons (dC (.int 1)) (dCons (dC (.int 3)) (dCons (dC (.int 12)) dNil)))) dNil))) dNil))) dNil)))))
theorem sc__law_gate : FnScope ["hand"] ["hand"] (defScope s__law_gate) := ⟨rfl, rfl, rfl, by decide +kernel, rfl, by decide +kernel, by decide +kernel⟩
theorem bn__law_gate : BindN "_law_gate" s__law_gate ["hand"] := fun _ _ _ _ _ _ us hl => match us, hl with | [_], _ => rfl
theorem ok__law_gate {sp__law_gate : DSp} (B : Bs K mg) (Z : DefAt K mg "_law_gate" s__law_gate) {sp__law_draw sp__law_any : DSp} (g__law_draw : FnX P w K mg base T k "_law_draw" ["hand", "many"] sp__law_draw) (g__law_any : FnX P w K mg base T k "_law_any" ["hand", "some"] sp__law_any) (len : ∀ ds M Q E, sp__law_gate ds M Q E → ds.length = 1) (mono : MonoP sp__law_gate)
    (rd : ∀ ds M Q E, sp__law_gate ds M Q E → (t__law_gate sp__law_draw sp__law_any) (endF Q E) (startD ["hand"] ds) M) : FnX P w K mg base T (k + 1) "_law_gate" ["hand"] sp__law_gate := by
  have hkk : Nat.ble k k = true := Nat.ble_self_eq_true k
  exact fnx_of Z sc__law_gate bn__law_gate len mono (t := (t__law_gate sp__law_draw sp__law_any)) (fun f cdv A outer s H M E hr hg => (dss_one (ds_ret (de_tup (da_cons (dcx g__law_draw (da_cons (dvl 0) (da_cons (dcx g__law_any (da_cons (dvl 0) (da_cons (de_lst (da_cons de_int (da_cons de_int (da_cons de_int da_nil)))) da_nil)) hkk) da_nil)) hkk) (da_cons (dcx g__law_draw (da_cons (dvl 0) (da_cons (dcx g__law_any (da_cons (dvl 0) (da_cons (de_lst (da_cons de_int (da_cons de_int (da_cons de_int da_nil)))) da_nil)) hkk) da_nil)) hkk) (da_cons (dcx g__law_draw (da_cons (dvl 0) (da_cons (dcx g__law_any (da_cons (dvl 0) (da_cons (de_lst (da_cons de_int (da_cons de_int (da_cons de_int da_nil)))) da_nil)) hkk) da_nil)) hkk) da_nil))))))) rd
def t__law_passages (sp__law_draw sp__law_any : DSp) : DS := (sSeq (sAsg (dLstM dNil) (gVar 2)) (sSeq (sFor (iRange1 (dCons (dOp fAdd (dC (.int 1)) (dCall sp__law_draw (dCons (dVar 0) (dCons (dVar 1) dNil)))) dNil)) (gVar 3) (sSeq (sAsg (dCall sp__law_draw (dCons (dVar 0) (dCons (dCall sp__law_any (dCons (dVar 0) (dCons (dLst (dCons (dC (.int 30)) (dCons (dC (.int 90)) dNil))) dNil))) dNil))) (gVar 4)) (sDrop (dMeth tyLst rApp (dVar 2) (dCons (dTup (dCons (dVar 4) (dCons (dOp fAdd (dOp fAdd (dVar 4) (dC (.int 1))) (dCall sp__law_draw (dCons (dVar 0) (dCons (dC (.int 9)) dNil)))) dNil))) dNil))))) (sRet (dFn gTuple (dCons (dSortedSet 1000000 (dVar 2)) dNil)))))
theorem sc__law_passages : FnScope ["hand", "most", "found", "step", "begin"] ["hand", "most"] (defScope s__law_passages) := ⟨rfl, rfl, rfl, by decide +kernel, rfl, by decide +kernel, by decide +kernel⟩
theorem bn__law_passages : BindN "_law_passages" s__law_passages ["hand", "most"] := fun _ _ _ _ _ _ us hl => match us, hl with | [_, _], _ => rfl
theorem ok__law_passages {sp__law_passages : DSp} (B : Bs K mg) (Z : DefAt K mg "_law_passages" s__law_passages) {sp__law_draw sp__law_any : DSp} (g__law_draw : FnX P w K mg base T k "_law_draw" ["hand", "many"] sp__law_draw) (g__law_any : FnX P w K mg base T k "_law_any" ["hand", "some"] sp__law_any) (len : ∀ ds M Q E, sp__law_passages ds M Q E → ds.length = 2) (mono : MonoP sp__law_passages)
    (rd : ∀ ds M Q E, sp__law_passages ds M Q E → (t__law_passages sp__law_draw sp__law_any) (endF Q E) (startD ["hand", "most", "found", "step", "begin"] ds) M) : FnX P w K mg base T (k + 1) "_law_passages" ["hand", "most"] sp__law_passages := by
  have hkk : Nat.ble k k = true := Nat.ble_self_eq_true k
  exact fnx_of Z sc__law_passages bn__law_passages len mono (t := (t__law_passages sp__law_draw sp__law_any)) (fun f cdv A outer s H M E hr hg => (dss_cons (dsl 2 (de_lstM da_nil)) (dss_cons (ds_for rfl (di_range1 rfl B.b_range (da_cons (de_op dop_add de_int (dcx g__law_draw (da_cons (dvl 0) (da_cons (dvl 1) da_nil)) hkk)) da_nil)) (dgl 3) (dss_cons (dsl 4 (dcx g__law_draw (da_cons (dvl 0) (da_cons (dcx g__law_any (da_cons (dvl 0) (da_cons (de_lst (da_cons de_int (da_cons de_int da_nil))) da_nil)) hkk) da_nil)) hkk)) (dss_one (ds_expr (de_append (dvl 2) (da_cons (de_tup (da_cons (dvl 4) (da_cons (de_op dop_add (de_op dop_add (dvl 4) de_int) (dcx g__law_draw (da_cons (dvl 0) (da_cons de_int da_nil)) hkk)) da_nil))) da_nil)))))) (dss_one (ds_ret (dct B.b_tuple bb_tuple cl_tuple (da_cons (de_sortedSet 1000000 rfl rfl B.b_sorted rfl B.b_set (dvl 2)) da_nil))))))) rd
def t__law_shut : DS := (sSeq (sAsg (dVar 0) (gTup 3 (gCons (gVar 2) (gCons (gVar 3) (gCons (gVar 4) gNil))))) (sSeq (sAsg (dLstM dNil) (gVar 5)) (sSeq (sFor (iSeq (dFn gSorted (dCons (dComp (iSeq (dVar 1)) (gTup 2 (gCons (gVar 6) (gCons (gVar 7) gNil))) tYesD (dTup (dCons (dFn gMax (dCons (dC (.int 0)) (dCons (dOp fSub (dVar 6) (dVar 2)) dNil))) (dCons (dOp fAdd (dVar 7) (dVar 3)) dNil))) [6, 7]) dNil))) (gTup 2 (gCons (gVar 6) (gCons (gVar 7) gNil))) (sIf (tAnd (tOf (dOp fGtD (dFn gLen (dCons (dVar 5) dNil)) (dC (.int 0)))) (tOr (tOf (dOp fLeD (dVar 6) (dOp fIx (dOp fIx (dVar 5) (dNeg (dC (.int 1)))) (dC (.int 1))))) (tOf (dOp fLtD (dOp fSub (dVar 6) (dOp fIx (dOp fIx (dVar 5) (dNeg (dC (.int 1)))) (dC (.int 1)))) (dVar 4))))) (sAsg (dTup (dCons (dOp fIx (dOp fIx (dVar 5) (dNeg (dC (.int 1)))) (dC (.int 0))) (dCons (dFn gMax (dCons (dOp fIx (dOp fIx (dVar 5) (dNeg (dC (.int 1)))) (dC (.int 1))) (dCons (dVar 7) dNil))) dNil))) (gSub (dVar 5) (dNeg (dC (.int 1))))) (sDrop (dMeth tyLst rApp (dVar 5) (dCons (dTup (dCons (dVar 6) (dCons (dVar 7) dNil))) dNil))))) (sRet (dVar 5)))))
theorem sc__law_shut : FnScope ["gate", "passages", "lead", "lag", "gap_here", "found", "begin", "end"] ["gate", "passages"] (defScope s__law_shut) := ⟨rfl, rfl, rfl, by decide +kernel, rfl, by decide +kernel, by decide +kernel⟩
theorem bn__law_shut : BindN "_law_shut" s__law_shut ["gate", "passages"] := fun _ _ _ _ _ _ us hl => match us, hl with | [_, _], _ => rfl
theorem ok__law_shut {sp__law_shut : DSp} (B : Bs K mg) (Z : DefAt K mg "_law_shut" s__law_shut) (len : ∀ ds M Q E, sp__law_shut ds M Q E → ds.length = 2) (mono : MonoP sp__law_shut)
    (rd : ∀ ds M Q E, sp__law_shut ds M Q E → t__law_shut (endF Q E) (startD ["gate", "passages", "lead", "lag", "gap_here", "found", "begin", "end"] ds) M) : FnX P w K mg base T (k + 1) "_law_shut" ["gate", "passages"] sp__law_shut := by
  exact fnx_of Z sc__law_shut bn__law_shut len mono (t := t__law_shut) (fun f cdv A outer s H M E hr hg => (dss_cons (ds_asg (dvl 0) (dg_tup rfl (dgs_cons (dgc 2) (dgs_cons (dgc 3) (dgs_cons (dgl 4) dgs_nil))))) (dss_cons (dsl 5 (de_lstM da_nil)) (dss_cons (ds_for rfl (di_seq (dcb B.b_sorted bb_sorted cl_sorted (da_cons (de_comp (own := [("begin", 6), ("end", 7)]) rfl (di_seq (dvl 1)) (blkOk_by (by kernel_rfl)) (fun _ _ _ _ _ => (dw_tup rfl (dws_cons (dwl 6) (dws_cons (dwl 7) dws_nil)))) (fun _ _ _ _ _ => dts_nil) (fun _ _ _ _ _ => (de_tup (da_cons (dcb B.b_max bb_max (cl_max rfl) (da_cons de_int (da_cons (de_op dop_sub (dvl 6) (dvc 2)) da_nil))) (da_cons (de_op dop_add (dvl 7) (dvc 3)) da_nil))))) da_nil))) (dg_tup rfl (dgs_cons (dgl 6) (dgs_cons (dgl 7) dgs_nil))) (dss_one (ds_if (dt_and (dt_cmp dop_gtD (dcb B.b_len bb_len cl_len (da_cons (dvl 5) da_nil)) de_int) (dt_and1 (dt_or (dt_cmp dop_leD (dvl 6) (de_ix (de_ix (dvl 5) (de_neg de_int)) de_int)) (dt_or1 (dt_cmp dop_ltD (de_op dop_sub (dvl 6) (de_ix (de_ix (dvl 5) (de_neg de_int)) de_int)) (dvl 4)))))) (dss_one (ds_asg (de_tup (da_cons (de_ix (de_ix (dvl 5) (de_neg de_int)) de_int) (da_cons (dcb B.b_max bb_max (cl_max rfl) (da_cons (de_ix (de_ix (dvl 5) (de_neg de_int)) de_int) (da_cons (dvl 7) da_nil))) da_nil))) (dg_sub (dvl 5) (de_neg de_int)))) (dss_one (ds_expr (de_append (dvl 5) (da_cons (de_tup (da_cons (dvl 6) (da_cons (dvl 7) da_nil))) da_nil))))))) (dss_one (ds_ret (dvl 5))))))) rd
def t__law_is_right (sp_shut_times sp_is_shut sp_shut_many sp__law_draw sp__law_same sp__law_shut : DSp) : DS := (sSeq (sPar 3 4 (dCons (dCall sp__law_shut (dCons (dVar 1) (dCons (dVar 2) dNil))) (dCons (dFn gRepr (dCons (dLst (dCons (dVar 1) (dCons (dVar 2) dNil))) dNil)) dNil))) (sSeq (sAsg (dCall sp_shut_times (dCons (dVar 1) (dCons (dVar 2) dNil))) (gVar 5)) (sSeq (sIf (tNot (tOf (dCall sp__law_same (dCons (dLst (dCons (dVar 5) (dCons (dCall sp_shut_many (dCons (dVar 1) (dCons (dVar 2) dNil))) dNil))) (dCons (dLst (dCons (dFn gTuple (dCons (dVar 3) dNil)) (dCons (dTup (dCons (dFn gLen (dCons (dVar 3) dNil)) (dCons (dFn gSum (dCons (dComp (iSeq (dVar 3)) (gTup 2 (gCons (gVar 9) (gCons (gVar 10) gNil))) tYesD (dOp fSub (dVar 10) (dVar 9)) [9, 10]) dNil)) dNil))) dNil))) dNil))))) (sRet (dC (.bl false))) sNext) (sSeq (sIf (tOf (dFn gAny (dCons (dComp (iZip (dCons (dVar 3) (dCons (dPart (dVar 3) (oSome (dC (.int 1))) oNone) dNil))) (gTup 2 (gCons (gVar 11) (gCons (gVar 12) gNil))) tYesD (dOp fLtD (dOp fSub (dOp fIx (dVar 12) (dC (.int 0))) (dOp fIx (dVar 11) (dC (.int 1)))) (dFn gMax (dCons (dC (.int 1)) (dCons (dOp fIx (dVar 1) (dC (.int 2))) dNil)))) [11, 12]) dNil))) (sRet (dC (.bl false))) sNext) (sSeq (sAsg (dFn gTuple (dCons (dComp (iSeq (dVar 1)) (gVar 13) tYesD (dOp fAdd (dVar 13) (dCall sp__law_draw (dCons (dVar 0) (dCons (dC (.int 4)) dNil)))) [13]) dNil)) (gVar 6)) (sSeq (sFor (iSeq (dOp fAdd (dLst (dCons (dC (.int 0)) (dCons (dOp fIx (dOp fIx (dVar 3) (dC (.int 0))) (dC (.int 0))) (dCons (dOp fIx (dOp fIx (dVar 3) (dC (.int 0))) (dC (.int 1))) (dCons (dOp fSub (dOp fIx (dOp fIx (dVar 3) (dNeg (dC (.int 1)))) (dC (.int 1))) (dC (.int 1))) (dCons (dOp fIx (dOp fIx (dVar 3) (dNeg (dC (.int 1)))) (dC (.int 1))) dNil)))))) (dComp (iRange1 (dCons (dC (.int 8)) dNil)) (gVar 14) tYesD (dCall sp__law_draw (dCons (dVar 0) (dCons (dC (.int 140)) dNil))) [14]))) (gVar 7) (sSeq (sAsg (dFn gAny (dCons (dComp (iSeq (dVar 3)) (gTup 2 (gCons (gVar 9) (gCons (gVar 10) gNil))) tYesD (dChain fLeD fLtD (dVar 9) (dVar 7) (dVar 10)) [9, 10]) dNil)) (gVar 8)) (sIf (tOr (tNot (tOf (dCall sp__law_same (dCons (dCall sp_is_shut (dCons (dVar 1) (dCons (dVar 2) (dCons (dVar 7) dNil)))) (dCons (dVar 8) dNil))))) (tAnd (tOf (dVar 8)) (tOf (dOp fIsNot (dCall sp_is_shut (dCons (dVar 6) (dCons (dVar 2) (dCons (dVar 7) dNil)))) (dC (.bl true)))))) (sRet (dC (.bl false))) sNext))) (sSeq (sFor (iSeq (dVar 2)) (gTup 2 (gCons (gVar 9) (gCons (gVar 10) gNil))) (sIf (tNot (tOf (dFn gAll (dCons (dComp (iSeq (dTup (dCons (dVar 9) (dCons (dOp fSub (dVar 10) (dC (.int 1))) (dCons (dFn gMax (dCons (dC (.int 0)) (dCons (dOp fSub (dVar 9) (dOp fIx (dVar 1) (dC (.int 0)))) dNil))) dNil))))) (gVar 7) tYesD (dCall sp_is_shut (dCons (dVar 1) (dCons (dVar 2) (dCons (dVar 7) dNil)))) [7]) dNil)))) (sRet (dC (.bl false))) sNext)) (sRet (dOp fEq (dFn gRepr (dCons (dLst (dCons (dVar 1) (dCons (dVar 2) dNil))) dNil)) (dVar 4))))))))))
theorem sc__law_is_right : FnScope ["hand", "gate", "passages", "own", "before", "heard", "wide", "time", "flag", "begin", "end", "here", "later", "one", "lap"] ["hand", "gate", "passages"] (defScope s__law_is_right) := ⟨rfl, rfl, rfl, by decide +kernel, rfl, by decide +kernel, by decide +kernel⟩
theorem bn__law_is_right : BindN "_law_is_right" s__law_is_right ["hand", "gate", "passages"] := fun _ _ _ _ _ _ us hl => match us, hl with | [_, _, _], _ => rfl
theorem ok__law_is_right {sp__law_is_right : DSp} (B : Bs K mg) (Z : DefAt K mg "_law_is_right" s__law_is_right) {sp_shut_times sp_is_shut sp_shut_many sp__law_draw sp__law_same sp__law_shut : DSp} (g_shut_times : FnX P w K mg base T k "shut_times" ["gate", "passages"] sp_shut_times) (g_is_shut : FnX P w K mg base T k "is_shut" ["gate", "passages", "time"] sp_is_shut) (g_shut_many : FnX P w K mg base T k "shut_many" ["gate", "passages"] sp_shut_many) (g__law_draw : FnX P w K mg base T k "_law_draw" ["hand", "many"] sp__law_draw) (g__law_same : FnX P w K mg base T k "_law_same" ["one", "due"] sp__law_same) (g__law_shut : FnX P w K mg base T k "_law_shut" ["gate", "passages"] sp__law_shut) (len : ∀ ds M Q E, sp__law_is_right ds M Q E → ds.length = 3) (mono : MonoP sp__law_is_right)
    (rd : ∀ ds M Q E, sp__law_is_right ds M Q E → (t__law_is_right sp_shut_times sp_is_shut sp_shut_many sp__law_draw sp__law_same sp__law_shut) (endF Q E) (startD ["hand", "gate", "passages", "own", "before", "heard", "wide", "time", "flag", "begin", "end", "here", "later", "one", "lap"] ds) M) : FnX P w K mg base T (k + 1) "_law_is_right" ["hand", "gate", "passages"] sp__law_is_right := by
  have hkk : Nat.ble k k = true := Nat.ble_self_eq_true k
  exact fnx_of Z sc__law_is_right bn__law_is_right len mono (t := (t__law_is_right sp_shut_times sp_is_shut sp_shut_many sp__law_draw sp__law_same sp__law_shut)) (fun f cdv A outer s H M E hr hg => (dss_cons (ds_par 3 4 (da_cons (dcx g__law_shut (da_cons (dvc 1) (da_cons (dvc 2) da_nil)) hkk) (da_cons (dcb B.b_repr bb_repr cl_repr (da_cons (de_lst (da_cons (dvc 1) (da_cons (dvc 2) da_nil))) da_nil)) da_nil))) (dss_cons (dsl 5 (dcx g_shut_times (da_cons (dvc 1) (da_cons (dvc 2) da_nil)) hkk)) (dss_cons (ds_if (dt_not (dt_val (dcx g__law_same (da_cons (de_lst (da_cons (dvl 5) (da_cons (dcx g_shut_many (da_cons (dvc 1) (da_cons (dvc 2) da_nil)) hkk) da_nil))) (da_cons (de_lst (da_cons (dct B.b_tuple bb_tuple cl_tuple (da_cons (dvl 3) da_nil)) (da_cons (de_tup (da_cons (dcb B.b_len bb_len cl_len (da_cons (dvl 3) da_nil)) (da_cons (dcb B.b_sum bb_sum (cl_sum rfl) (da_cons (de_comp (own := [("begin", 9), ("end", 10)]) rfl (di_seq (dvl 3)) (blkOk_by (by kernel_rfl)) (fun _ _ _ _ _ => (dw_tup rfl (dws_cons (dwl 9) (dws_cons (dwl 10) dws_nil)))) (fun _ _ _ _ _ => dts_nil) (fun _ _ _ _ _ => (de_op dop_sub (dvl 10) (dvl 9)))) da_nil)) da_nil))) da_nil))) da_nil)) hkk))) (dss_one (ds_ret de_bl)) dss_nil) (dss_cons (ds_if (dt_val (dcb B.b_any bb_any (cl_any rfl) (da_cons (de_comp (own := [("here", 11), ("later", 12)]) rfl (di_zip rfl B.b_zip (da_cons (dvl 3) (da_cons (de_part (dvl 3) (do_some de_int) do_none) da_nil))) (blkOk_by (by kernel_rfl)) (fun _ _ _ _ _ => (dw_tup rfl (dws_cons (dwl 11) (dws_cons (dwl 12) dws_nil)))) (fun _ _ _ _ _ => dts_nil) (fun _ _ _ _ _ => (de_cmp dop_ltD (de_op dop_sub (de_ix (dvl 12) de_int) (de_ix (dvl 11) de_int)) (dcb B.b_max bb_max (cl_max rfl) (da_cons de_int (da_cons (de_ix (dvc 1) de_int) da_nil)))))) da_nil))) (dss_one (ds_ret de_bl)) dss_nil) (dss_cons (dsl 6 (dct B.b_tuple bb_tuple cl_tuple (da_cons (de_comp (own := [("one", 13)]) rfl (di_seq (dvc 1)) (blkOk_by (by kernel_rfl)) (fun _ _ _ _ _ => (dwl 13)) (fun _ _ _ _ _ => dts_nil) (fun _ _ _ _ _ => (de_op dop_add (dvl 13) (dcx g__law_draw (da_cons (dvc 0) (da_cons de_int da_nil)) hkk)))) da_nil))) (dss_cons (ds_for rfl (di_seq (de_op dop_add (de_lst (da_cons de_int (da_cons (de_ix (de_ix (dvl 3) de_int) de_int) (da_cons (de_ix (de_ix (dvl 3) de_int) de_int) (da_cons (de_op dop_sub (de_ix (de_ix (dvl 3) (de_neg de_int)) de_int) de_int) (da_cons (de_ix (de_ix (dvl 3) (de_neg de_int)) de_int) da_nil)))))) (de_comp (own := [("lap", 14)]) rfl (di_range1 rfl B.b_range (da_cons de_int da_nil)) (blkOk_by (by kernel_rfl)) (fun _ _ _ _ _ => (dwl 14)) (fun _ _ _ _ _ => dts_nil) (fun _ _ _ _ _ => (dcx g__law_draw (da_cons (dvc 0) (da_cons de_int da_nil)) hkk))))) (dgc 7) (dss_cons (dsl 8 (dcb B.b_any bb_any (cl_any rfl) (da_cons (de_comp (own := [("begin", 9), ("end", 10)]) rfl (di_seq (dvl 3)) (blkOk_by (by kernel_rfl)) (fun _ _ _ _ _ => (dw_tup rfl (dws_cons (dwl 9) (dws_cons (dwl 10) dws_nil)))) (fun _ _ _ _ _ => dts_nil) (fun _ _ _ _ _ => (de_chain dop_leD dop_ltD (dvl 9) (dvc 7) (dvl 10)))) da_nil))) (dss_one (ds_if (dt_or (dt_not (dt_val (dcx g__law_same (da_cons (dcx g_is_shut (da_cons (dvc 1) (da_cons (dvc 2) (da_cons (dvc 7) da_nil))) hkk) (da_cons (dvl 8) da_nil)) hkk))) (dt_or1 (dt_and (dt_val (dvl 8)) (dt_and1 (dt_cmp dop_isNot (dcx g_is_shut (da_cons (dvl 6) (da_cons (dvc 2) (da_cons (dvc 7) da_nil))) hkk) de_bl))))) (dss_one (ds_ret de_bl)) dss_nil)))) (dss_cons (ds_for rfl (di_seq (dvc 2)) (dg_tup rfl (dgs_cons (dgl 9) (dgs_cons (dgl 10) dgs_nil))) (dss_one (ds_if (dt_not (dt_val (dcb B.b_all bb_all (cl_all rfl) (da_cons (de_comp (own := [("time", 7)]) rfl (di_seq (de_tup (da_cons (dvl 9) (da_cons (de_op dop_sub (dvl 10) de_int) (da_cons (dcb B.b_max bb_max (cl_max rfl) (da_cons de_int (da_cons (de_op dop_sub (dvl 9) (de_ix (dvc 1) de_int)) da_nil))) da_nil))))) (blkOk_by (by kernel_rfl)) (fun _ _ _ _ _ => (dwl 7)) (fun _ _ _ _ _ => dts_nil) (fun _ _ _ _ _ => (dcx g_is_shut (da_cons (dvc 1) (da_cons (dvc 2) (da_cons (dvl 7) da_nil))) hkk))) da_nil)))) (dss_one (ds_ret de_bl)) dss_nil))) (dss_one (ds_ret (de_cmp dop_eq (dcb B.b_repr bb_repr cl_repr (da_cons (de_lst (da_cons (dvc 1) (da_cons (dvc 2) da_nil))) da_nil)) (dvl 4)))))))))))) rd
def t_law (sp_shut_times sp_is_shut sp_shut_many sp__law_hand sp__law_same sp__law_gate sp__law_passages sp__law_is_right : DSp) : DS := (sSeq (sAsg (dCall sp__law_hand (dCons (dVar 0) dNil)) (gVar 1)) (sSeq (sAsg (dLst (dCons (dCall sp_shut_times (dCons (dTup (dCons (dC (.int 5)) (dCons (dC (.int 2)) (dCons (dC (.int 0)) dNil)))) (dCons (dTup (dCons (dTup (dCons (dC (.int 3)) (dCons (dC (.int 6)) dNil))) (dCons (dTup (dCons (dC (.int 20)) (dCons (dC (.int 30)) dNil))) dNil))) dNil))) (dCons (dCall sp_shut_times (dCons (dTup (dCons (dC (.int 5)) (dCons (dC (.int 2)) (dCons (dC (.int 8)) dNil)))) (dCons (dTup (dCons (dTup (dCons (dC (.int 3)) (dCons (dC (.int 6)) dNil))) (dCons (dTup (dCons (dC (.int 20)) (dCons (dC (.int 30)) dNil))) dNil))) dNil))) (dCons (dCall sp_shut_many (dCons (dTup (dCons (dC (.int 5)) (dCons (dC (.int 2)) (dCons (dC (.int 0)) dNil)))) (dCons (dTup (dCons (dTup (dCons (dC (.int 3)) (dCons (dC (.int 6)) dNil))) (dCons (dTup (dCons (dC (.int 20)) (dCons (dC (.int 30)) dNil))) dNil))) dNil))) (dCons (dCall sp_shut_times (dCons (dTup (dCons (dC (.int 0)) (dCons (dC (.int 0)) (dCons (dC (.int 0)) dNil)))) (dCons (dTup (dCons (dTup (dCons (dC (.int 1)) (dCons (dC (.int 2)) dNil))) (dCons (dTup (dCons (dC (.int 2)) (dCons (dC (.int 3)) dNil))) dNil))) dNil))) dNil))))) (gVar 2)) (sSeq (sIf (tNot (tOf (dCall sp__law_same (dCons (dVar 2) (dCons (dLst (dCons (dTup (dCons (dTup (dCons (dC (.int 0)) (dCons (dC (.int 8)) dNil))) (dCons (dTup (dCons (dC (.int 15)) (dCons (dC (.int 32)) dNil))) dNil))) (dCons (dTup (dCons (dTup (dCons (dC (.int 0)) (dCons (dC (.int 32)) dNil))) dNil)) (dCons (dTup (dCons (dC (.int 2)) (dCons (dC (.int 25)) dNil))) (dCons (dTup (dCons (dTup (dCons (dC (.int 1)) (dCons (dC (.int 3)) dNil))) dNil)) dNil))))) dNil))))) (sRet (dC (.bl false))) sNext) (sSeq (sIf (tOf (dOp fNe (dLst (dCons (dCall sp_is_shut (dCons (dTup (dCons (dC (.int 5)) (dCons (dC (.int 2)) (dCons (dC (.int 0)) dNil)))) (dCons (dTup (dCons (dTup (dCons (dC (.int 3)) (dCons (dC (.int 6)) dNil))) dNil)) (dCons (dC (.int 7)) dNil)))) (dCons (dCall sp_is_shut (dCons (dTup (dCons (dC (.int 5)) (dCons (dC (.int 2)) (dCons (dC (.int 0)) dNil)))) (dCons (dTup (dCons (dTup (dCons (dC (.int 3)) (dCons (dC (.int 6)) dNil))) dNil)) (dCons (dC (.int 8)) dNil)))) (dCons (dCall sp_shut_times (dCons (dTup (dCons (dC (.int 5)) (dCons (dC (.int 2)) (dCons (dC (.int 7)) dNil)))) (dCons (dTup (dCons (dTup (dCons (dC (.int 3)) (dCons (dC (.int 6)) dNil))) (dCons (dTup (dCons (dC (.int 20)) (dCons (dC (.int 30)) dNil))) dNil))) dNil))) dNil)))) (dLst (dCons (dC (.bl true)) (dCons (dC (.bl false)) (dCons (dTup (dCons (dTup (dCons (dC (.int 0)) (dCons (dC (.int 8)) dNil))) (dCons (dTup (dCons (dC (.int 15)) (dCons (dC (.int 32)) dNil))) dNil))) dNil)))))) (sRet (dC (.bl false))) sNext) (sRet (dFn gAll (dCons (dComp (iRange1 (dCons (dC (.int 8)) dNil)) (gVar 3) tYesD (dCall sp__law_is_right (dCons (dVar 1) (dCons (dCall sp__law_gate (dCons (dVar 1) dNil)) (dCons (dCall sp__law_passages (dCons (dVar 1) (dCons (dC (.int 10)) dNil))) dNil)))) [3]) dNil)))))))
theorem sc_law : FnScope ["script", "hand", "heard", "lap"] ["script"] (defScope s_law) := ⟨rfl, rfl, rfl, by decide +kernel, rfl, by decide +kernel, by decide +kernel⟩
theorem bn_law : BindN "law" s_law ["script"] := fun _ _ _ _ _ _ us hl => match us, hl with | [_], _ => rfl
theorem ok_law {sp_law : DSp} (B : Bs K mg) (Z : DefAt K mg "law" s_law) {sp_shut_times sp_is_shut sp_shut_many sp__law_hand sp__law_same sp__law_gate sp__law_passages sp__law_is_right : DSp} (g_shut_times : FnX P w K mg base T k "shut_times" ["gate", "passages"] sp_shut_times) (g_is_shut : FnX P w K mg base T k "is_shut" ["gate", "passages", "time"] sp_is_shut) (g_shut_many : FnX P w K mg base T k "shut_many" ["gate", "passages"] sp_shut_many) (g__law_hand : FnX P w K mg base T k "_law_hand" ["script"] sp__law_hand) (g__law_same : FnX P w K mg base T k "_law_same" ["one", "due"] sp__law_same) (g__law_gate : FnX P w K mg base T k "_law_gate" ["hand"] sp__law_gate) (g__law_passages : FnX P w K mg base T k "_law_passages" ["hand", "most"] sp__law_passages) (g__law_is_right : FnX P w K mg base T k "_law_is_right" ["hand", "gate", "passages"] sp__law_is_right) (len : ∀ ds M Q E, sp_law ds M Q E → ds.length = 1) (mono : MonoP sp_law)
    (rd : ∀ ds M Q E, sp_law ds M Q E → (t_law sp_shut_times sp_is_shut sp_shut_many sp__law_hand sp__law_same sp__law_gate sp__law_passages sp__law_is_right) (endF Q E) (startD ["script", "hand", "heard", "lap"] ds) M) : FnX P w K mg base T (k + 1) "law" ["script"] sp_law := by
  have hkk : Nat.ble k k = true := Nat.ble_self_eq_true k
  exact fnx_of Z sc_law bn_law len mono (t := (t_law sp_shut_times sp_is_shut sp_shut_many sp__law_hand sp__law_same sp__law_gate sp__law_passages sp__law_is_right)) (fun f cdv A outer s H M E hr hg => (dss_cons (dsc 1 (dcx g__law_hand (da_cons (dvl 0) da_nil) hkk)) (dss_cons (dsl 2 (de_lst (da_cons (dcx g_shut_times (da_cons (de_tup (da_cons de_int (da_cons de_int (da_cons de_int da_nil)))) (da_cons (de_tup (da_cons (de_tup (da_cons de_int (da_cons de_int da_nil))) (da_cons (de_tup (da_cons de_int (da_cons de_int da_nil))) da_nil))) da_nil)) hkk) (da_cons (dcx g_shut_times (da_cons (de_tup (da_cons de_int (da_cons de_int (da_cons de_int da_nil)))) (da_cons (de_tup (da_cons (de_tup (da_cons de_int (da_cons de_int da_nil))) (da_cons (de_tup (da_cons de_int (da_cons de_int da_nil))) da_nil))) da_nil)) hkk) (da_cons (dcx g_shut_many (da_cons (de_tup (da_cons de_int (da_cons de_int (da_cons de_int da_nil)))) (da_cons (de_tup (da_cons (de_tup (da_cons de_int (da_cons de_int da_nil))) (da_cons (de_tup (da_cons de_int (da_cons de_int da_nil))) da_nil))) da_nil)) hkk) (da_cons (dcx g_shut_times (da_cons (de_tup (da_cons de_int (da_cons de_int (da_cons de_int da_nil)))) (da_cons (de_tup (da_cons (de_tup (da_cons de_int (da_cons de_int da_nil))) (da_cons (de_tup (da_cons de_int (da_cons de_int da_nil))) da_nil))) da_nil)) hkk) da_nil)))))) (dss_cons (ds_if (dt_not (dt_val (dcx g__law_same (da_cons (dvl 2) (da_cons (de_lst (da_cons (de_tup (da_cons (de_tup (da_cons de_int (da_cons de_int da_nil))) (da_cons (de_tup (da_cons de_int (da_cons de_int da_nil))) da_nil))) (da_cons (de_tup (da_cons (de_tup (da_cons de_int (da_cons de_int da_nil))) da_nil)) (da_cons (de_tup (da_cons de_int (da_cons de_int da_nil))) (da_cons (de_tup (da_cons (de_tup (da_cons de_int (da_cons de_int da_nil))) da_nil)) da_nil))))) da_nil)) hkk))) (dss_one (ds_ret de_bl)) dss_nil) (dss_cons (ds_if (dt_cmp dop_ne (de_lst (da_cons (dcx g_is_shut (da_cons (de_tup (da_cons de_int (da_cons de_int (da_cons de_int da_nil)))) (da_cons (de_tup (da_cons (de_tup (da_cons de_int (da_cons de_int da_nil))) da_nil)) (da_cons de_int da_nil))) hkk) (da_cons (dcx g_is_shut (da_cons (de_tup (da_cons de_int (da_cons de_int (da_cons de_int da_nil)))) (da_cons (de_tup (da_cons (de_tup (da_cons de_int (da_cons de_int da_nil))) da_nil)) (da_cons de_int da_nil))) hkk) (da_cons (dcx g_shut_times (da_cons (de_tup (da_cons de_int (da_cons de_int (da_cons de_int da_nil)))) (da_cons (de_tup (da_cons (de_tup (da_cons de_int (da_cons de_int da_nil))) (da_cons (de_tup (da_cons de_int (da_cons de_int da_nil))) da_nil))) da_nil)) hkk) da_nil)))) (de_lst (da_cons de_bl (da_cons de_bl (da_cons (de_tup (da_cons (de_tup (da_cons de_int (da_cons de_int da_nil))) (da_cons (de_tup (da_cons de_int (da_cons de_int da_nil))) da_nil))) da_nil))))) (dss_one (ds_ret de_bl)) dss_nil) (dss_one (ds_ret (dcb B.b_all bb_all (cl_all rfl) (da_cons (de_comp (own := [("lap", 3)]) rfl (di_range1 rfl B.b_range (da_cons de_int da_nil)) (blkOk_by (by kernel_rfl)) (fun _ _ _ _ _ => (dwl 3)) (fun _ _ _ _ _ => dts_nil) (fun _ _ _ _ _ => (dcx g__law_is_right (da_cons (dvc 1) (da_cons (dcx g__law_gate (da_cons (dvc 1) da_nil) hkk) (da_cons (dcx g__law_passages (da_cons (dvc 1) (da_cons de_int da_nil)) hkk) da_nil))) hkk))) da_nil))))))))) rd
end
end K69

namespace K69
open PySem PySem.Spec PyProof.Rows L2 DL
/-! promises -/
def g_is_integer : List D → Option D
  | [.int _] => some (.bl true)
  | [.tup _] => some (.bl false)
  | _ => none
abbrev sp_is_integer : DSp := pureP 1 g_is_integer
theorem rd_is_integer : ∀ ds M Q E, sp_is_integer ds M Q E → t_is_integer (endF Q E) (startD ["thing"] ds) M := by
  rintro ds M Q E ⟨hl, q⟩
  obtain ⟨r, e, q⟩ := ok1_ex q
  unfold g_is_integer at e
  split at e <;> cases e
  · simp [t_is_integer, startD]
    exact endF_rt q
  · simp [t_is_integer, startD]
    exact endF_rt q
def g_is_within : List D → Option D
  | [.int a, .int lo, .int hi] => some (.bl (decide (lo ≤ a) && decide (a ≤ hi)))
  | _ => none
abbrev sp_is_within : DSp := pureP 3 g_is_within
theorem rd_is_within : ∀ ds M Q E, sp_is_within ds M Q E → t_is_within sp_is_integer (endF Q E) (startD ["thing", "low", "high"] ds) M := by
  rintro ds M Q E ⟨hl, q⟩
  obtain ⟨r, e, q⟩ := ok1_ex q
  unfold g_is_within at e
  split at e <;> cases e
  rename_i a lo hi
  simp [t_is_within, startD, g_is_integer]
  split
  · rename_i h
    refine endF_rt ?_
    simpa [h] using q
  · rename_i h
    refine endF_rt ?_
    simpa [h] using q
end K69

namespace K69
open PySem PySem.Spec PyProof.Rows L2 DL
def HandOk (l : List D) : Prop := ∃ (cs : List Int) (a b c e : Int), l = [.lst (cs.map D.int), .int a, .int b, .int c, .int e] ∧ 0 ≤ a ∧ 0 ≤ b ∧ 0 ≤ c ∧ c < 4294967296
def sp__law_draw : DSp := fun ds M Q _ => ∃ h l n, ds = [.ref h, .int n] ∧ M h = some (.lst l) ∧ HandOk l ∧ 0 < n ∧ n < 1073741824 ∧ ∀ v l', 0 ≤ v → v < n → HandOk l' → Q (.int v) (put M h (.lst l'))
theorem mono_draw : MonoP sp__law_draw := fun ds M Q Q' E E' h _ ⟨a, l, n, e1, e2, e3, e4, e5, q⟩ => ⟨a, l, n, e1, e2, e3, e4, e5, fun v l' h1 h2 h3 => h _ _ (q v l' h1 h2 h3)⟩
theorem len_draw : ∀ ds M Q E, sp__law_draw ds M Q E → ds.length = 2 := fun ds M Q E ⟨a, l, n, e1, _⟩ => by rw [e1]; rfl
theorem setR {M : Mp} {a : Addr} {xs : List D} {k : Int} {v : D} (h : M a = some (.lst xs)) : setAt M (.ref a) (.int k) v = (L2.ixN xs.length k).map fun j => put M a (.lst (xs.set j v)) := by
  simp only [setAt, h]
  cases L2.ixN xs.length k <;> rfl
theorem ix5 : L2.ixN 5 1 = some 1 ∧ L2.ixN 5 2 = some 2 ∧ L2.ixN 5 3 = some 3 ∧ L2.ixN 5 4 = some 4 := by decide
theorem pow18 {M : Mp} : fPow (.int 10) (.int 18) M = some (.int 1000000000000000000) := by simp [fPow, fI]
theorem small_mod (z k : Int) (h1 : 0 < k) (h2 : k < 4294967296) : small (z % k) = true := by
  have := Int.emod_nonneg z (show k ≠ 0 by omega)
  have := Int.emod_lt_of_pos z h1
  simp only [small, Bool.and_eq_true, decide_eq_true_eq]
  omega
theorem put_self {M : Mp} {h : Addr} {o : OD} (hM : M h = some o) : M = put M h o := by
  funext z
  unfold put
  split
  · rename_i e; rw [e, hM]
  · rfl
section
variable {En : DEnds} {M : Mp} {n : Int} {h : Addr} {x y : Option D} {m : Int}
def dw3 : DS := sRet (dOp fMod (dFn gInt (dCons (dOp fDiv (dVar 4) (dC (.int 16))) dNil)) (dVar 1))
def dw2 : DS := sSeq (sAsg (dOp fMod (dFn gInt (dCons (dOp fMul (dVar 4) (dOp fAdd (dOp fDiv (dVar 4) (dC (.int 2003))) (dC (.int 40014)))) dNil)) (dC (.int 2147483563))) (gVar 4)) dw3
def dw1 : DS := sSeq (sAsg (dOp fMod (dFn gInt (dCons (dOp fMul (dVar 4) (dOp fAdd (dOp fDiv (dVar 4) (dC (.int 1009))) (dC (.int 69621)))) dNil)) (dC (.int 2147483647))) (gVar 4)) dw2
def dw0 : DS := sSeq (sAsg (dOp fMod (dFn gInt (dCons (dOp fMul (dFn gInt (dCons (dOp fAdd (dOp fIx (dVar 0) (dC (.int 3))) (dOp fMul (dC (.int 7919)) (dOp fIx (dVar 0) (dC (.int 4))))) dNil)) (dC (.int 40692))) dNil)) (dC (.int 2147483647))) (gVar 4)) dw1
def dwT : DS := sSeq (sIf (tOf (dOp fGtD (dOp fIx (dVar 0) (dC (.int 2))) (dC (.int 0)))) (sSeq (sAsg (dOp fMod (dFn gInt (dCons (dOp fIx (dVar 0) (dC (.int 2))) dNil)) (dVar 1)) (gVar 3)) (sSeq (sAsg (dOp fDiv (dOp fIx (dVar 0) (dC (.int 2))) (dVar 1)) (gSub (dVar 0) (dC (.int 2)))) (sRet (dVar 3)))) sNext) (sSeq (sAsg (dOp fAdd (dOp fIx (dVar 0) (dC (.int 4))) (dC (.int 1))) (gSub (dVar 0) (dC (.int 4)))) dw0)
theorem dr3 (hn : 0 < n) (q : ∀ v, 0 ≤ v → v < n → En.rt (.int v) M) : dw3 En [some (.ref h), some (.int n), x, y, some (.int m)] M := by
  unfold dw3
  simp only [z_ret, z_op, z_fn, z_cons, z_nil, z_var, z_get0, z_get1, ok1_some, z_c, z_div (show (0 : Int) < 16 by decide) (show (16 : Int) < 1073741824 by decide), z_int, z_mod hn]
  exact q _ (Int.emod_nonneg _ (by omega)) (Int.emod_lt_of_pos _ hn)
theorem dr2 (hn : 0 < n) (hm : small m = true) (q : ∀ v, 0 ≤ v → v < n → En.rt (.int v) M) : dw2 En [some (.ref h), some (.int n), x, y, some (.int m)] M := by
  unfold dw2
  simp only [z_seq, z_asg, z_op, z_fn, z_cons, z_nil, z_var, z_get0, z_get1, ok1_some, z_c, z_div (show (0 : Int) < 2003 by decide) (show (2003 : Int) < 1073741824 by decide), z_add, z_mulc' hm, z_int, z_mod (show (0 : Int) < 2147483563 by decide), z_gvar, z_set0, z_set1]
  exact dr3 (En := En) hn q
theorem dr1 (hn : 0 < n) (hm : small m = true) (q : ∀ v, 0 ≤ v → v < n → En.rt (.int v) M) : dw1 En [some (.ref h), some (.int n), x, y, some (.int m)] M := by
  unfold dw1
  simp only [z_seq, z_asg, z_op, z_fn, z_cons, z_nil, z_var, z_get0, z_get1, ok1_some, z_c, z_div (show (0 : Int) < 1009 by decide) (show (1009 : Int) < 1073741824 by decide), z_add, z_mulc' hm, z_int, z_mod (show (0 : Int) < 2147483647 by decide), z_gvar, z_set0, z_set1]
  exact dr2 (En := En) hn (small_mod _ _ (by decide) (by decide)) q
theorem dr0 {cs : List D} {a b c e : Int} (hM : M h = some (.lst [.lst cs, .int a, .int b, .int c, .int e])) (hn : 0 < n) (q : ∀ v, 0 ≤ v → v < n → En.rt (.int v) M) : dw0 En [some (.ref h), some (.int n), x, y, none] M := by
  unfold dw0
  simp only [z_seq, z_asg, z_op, z_fn, z_cons, z_nil, z_var, z_get0, z_get1, ok1_some, z_c, z_ixR hM, z_at3, z_at4, z_mulc' (show small 7919 = true by decide), z_add, z_int, z_mulc (show small 40692 = true by decide), z_mod (show (0 : Int) < 2147483647 by decide), z_gvar, z_set0, z_set1]
  exact dr1 (En := En) hn (small_mod _ _ (by decide) (by decide)) q
theorem drT {cs : List D} {a b c e : Int} (hM : M h = some (.lst [.lst cs, .int a, .int b, .int c, .int e])) (hn : 0 < n) (hn2 : n < 1073741824) (hb : 0 ≤ b) (q : ∀ v b' e', 0 ≤ v → v < n → 0 ≤ b' → En.rt (.int v) (put M h (.lst [.lst cs, .int a, .int b', .int c, .int e']))) : dwT En [some (.ref h), some (.int n), x, y, none] M := by
  unfold dwT
  simp only [z_seq, z_if, z_tOf, z_op, z_var, z_get0, ok1_some, z_c, z_ixR hM, z_at2, z_gt, z_bool1, decide_eq_true_eq]
  split
  · rename_i h0
    simp only [z_seq, z_asg, z_op, z_fn, z_cons, z_nil, z_var, z_get0, z_get1, ok1_some, z_c, z_ixR hM, z_at2, z_int, z_mod hn, z_gvar, z_set0, z_set1, z_div hn hn2, z_gsub, setR hM, List.length_cons, List.length_nil, z_ret, Nat.zero_add, Nat.reduceAdd, ix5.2.1, Option.map_some, List.set_cons_zero, List.set_cons_succ]
    exact q _ _ _ (Int.emod_nonneg _ (by omega)) (Int.emod_lt_of_pos _ hn) (Int.ediv_nonneg (by omega) (by omega))
  · simp only [z_next, z_seq, z_asg, z_op, z_fn, z_cons, z_nil, z_var, z_get0, z_get1, ok1_some, z_c, z_ixR hM, z_at4, z_int, z_add, z_gvar, z_set0, z_set1, z_gsub, setR hM, List.length_cons, List.length_nil, Nat.zero_add, Nat.reduceAdd, ix5.2.2.2, Option.map_some, List.set_cons_zero, List.set_cons_succ]
    exact dr0 (En := En) put_same hn fun v h1 h2 => q v b (e + 1) h1 h2 hb
end
theorem rd__law_draw : ∀ ds M Q E, sp__law_draw ds M Q E → t__law_draw (endF Q E) (startD ["hand", "many", "cell", "digit", "number"] ds) M := by
  rintro ds M Q E ⟨h, l, n, rfl, hM, ⟨cs, a, b, c, e, rfl, ha, hb, hc, hc2⟩, hn, hn2, q⟩
  show (sSeq (sIf (tAnd (tOf (dOp fEq (dOp fIx (dVar 0) (dC (.int 2))) (dC (.int 0)))) (tOf (dOp fLtD (dOp fIx (dVar 0) (dC (.int 1))) (dFn gLen (dCons (dOp fIx (dVar 0) (dC (.int 0))) dNil))))) (sSeq (sAsg (dOp fIx (dOp fIx (dVar 0) (dC (.int 0))) (dOp fIx (dVar 0) (dC (.int 1)))) (gVar 2)) (sSeq (sAsg (dOp fAdd (dOp fIx (dVar 0) (dC (.int 1))) (dC (.int 1))) (gSub (dVar 0) (dC (.int 1)))) (sSeq (sAsg (dOp fMod (dFn gInt (dCons (dOp fAdd (dOp fAdd (dOp fMul (dOp fIx (dVar 0) (dC (.int 3))) (dC (.int 69621))) (dOp fMul (dVar 2) (dC (.int 48271)))) (dC (.int 17))) dNil)) (dC (.int 2147483629))) (gSub (dVar 0) (dC (.int 3)))) (sIf (tOf (dOp fGeD (dVar 2) (dOp fPow (dC (.int 10)) (dC (.int 18))))) (sAsg (dVar 2) (gSub (dVar 0) (dC (.int 2)))) sNext)))) sNext) dwT) (endF Q E) [some (.ref h), some (.int n), none, none, none] M
  have done : ∀ (a b c e : Int) (v : Int), 0 ≤ a → 0 ≤ b → 0 ≤ c → c < 4294967296 → 0 ≤ v → v < n → (endF Q E).rt (.int v) (put M h (.lst [.lst (cs.map D.int), .int a, .int b, .int c, .int e])) :=
    fun a b c e v h1 h2 h3 h4 h5 h6 => endF_rt (q v _ h5 h6 ⟨cs, a, b, c, e, rfl, h1, h2, h3, h4⟩)
  simp only [z_seq, z_if, z_tOf, z_tand, z_op, z_fn, z_cons, z_nil, z_var, z_get0, ok1_some, z_c, z_ixR hM, z_at0, z_at1, z_at2, z_eqI, z_lt, z_lenL, z_bool1, decide_eq_true_eq, List.length_map]
  have plain : dwT (endF Q E) [some (.ref h), some (.int n), none, none, none] M := drT (En := endF Q E) hM hn hn2 hb fun v b' e' h1 h2 h3 => done _ _ _ _ _ ha h3 hc hc2 h1 h2
  split
  · split
    · rename_i h1
      obtain ⟨i, rfl⟩ := Int.eq_ofNat_of_zero_le ha
      have hi : i < cs.length := by omega
      have gi : L2.atI (cs.map D.int) (i : Int) = some (.int cs[i]) := by rw [z_atN, List.getElem?_map, List.getElem?_eq_getElem hi]; rfl
      have fin : ∀ (c' : Int) (z : Int), 0 ≤ c' → c' < 4294967296 → 0 ≤ z → dwT (endF Q E) [some (.ref h), some (.int n), some (.int cs[i]), none, none] (put M h (.lst [.lst (cs.map D.int), .int ((i : Int) + 1), .int z, .int c', .int e])) := fun c' z h1 h2 h3 =>
        drT (En := endF Q E) put_same hn hn2 h3 fun v b' e' h4 h5 h6 => by
          rw [put_put]; exact done _ _ _ _ _ (by omega) h6 h1 h2 h4 h5
      generalize cs[i] = cell at gi fin ⊢
      have sc : small c = true := by
        simp only [small, Bool.and_eq_true, decide_eq_true_eq]
        omega
      have bnd : ∀ z : Int, 0 ≤ z % 2147483629 ∧ z % 2147483629 < 4294967296 := fun z => ⟨Int.emod_nonneg _ (by decide), Int.lt_trans (Int.emod_lt_of_pos _ (by decide)) (by decide)⟩
      simp only [z_seq, z_asg, z_op, z_fn, z_cons, z_nil, z_var, z_get0, z_get1, ok1_some, z_c, z_ixR hM, z_at0, z_at1, z_ixL, gi, z_gvar, z_set0, z_set1, z_add, z_gsub, setR hM, List.length_cons, List.length_nil, Nat.zero_add, Nat.reduceAdd, ix5.1, Option.map_some, List.set_cons_zero, List.set_cons_succ]
      have h2 : (put M h (.lst [.lst (cs.map D.int), .int ((i : Int) + 1), .int b, .int c, .int e])) h = some (.lst [.lst (cs.map D.int), .int ((i : Int) + 1), .int b, .int c, .int e]) := put_same
      simp only [z_seq, z_asg, z_op, z_fn, z_cons, z_nil, z_var, z_get0, z_get1, ok1_some, z_c, z_ixR h2, z_at3, z_mulc' sc, z_mulc (show small 48271 = true by decide), z_add, z_int, z_mod (show (0 : Int) < 2147483629 by decide), z_gsub, setR h2, List.length_cons, List.length_nil, Nat.zero_add, Nat.reduceAdd, ix5.2.2.1, Option.map_some, List.set_cons_zero, List.set_cons_succ, put_put, z_if, z_tOf, pow18, z_ge, z_bool1, decide_eq_true_eq]
      generalize hN : (c * 69621 + cell * 48271 + 17) % 2147483629 = nc
      obtain ⟨n1, n2⟩ := bnd (c * 69621 + cell * 48271 + 17)
      rw [hN] at n1 n2
      have h3 : (put M h (.lst [.lst (cs.map D.int), .int ((i : Int) + 1), .int b, .int nc, .int e])) h = some (.lst [.lst (cs.map D.int), .int ((i : Int) + 1), .int b, .int nc, .int e]) := put_same
      split
      · simp only [z_asg, z_var, z_get0, z_get1, ok1_some, z_gsub, z_c, setR h3, List.length_cons, List.length_nil, Nat.zero_add, Nat.reduceAdd, ix5.2.1, Option.map_some, List.set_cons_zero, List.set_cons_succ, put_put]
        exact fin nc cell n1 n2 (by omega)
      · exact fin nc b n1 n2 hb
    · exact plain
  · exact plain
end K69

namespace K69
open PySem PySem.Spec PyProof.Rows L2 DL
def sp__law_any : DSp := fun ds M Q _ => ∃ h l xs, ds = [.ref h, .lst xs] ∧ M h = some (.lst l) ∧ HandOk l ∧ xs ≠ [] ∧ xs.length < 1000000 ∧ ∀ d l', d ∈ xs → HandOk l' → Q d (put M h (.lst l'))
theorem mono_any : MonoP sp__law_any := fun ds M Q Q' E E' h _ ⟨a, l, n, e1, e2, e3, e4, e5, q⟩ => ⟨a, l, n, e1, e2, e3, e4, e5, fun v l' h1 h3 => h _ _ (q v l' h1 h3)⟩
theorem len_any : ∀ ds M Q E, sp__law_any ds M Q E → ds.length = 2 := fun ds M Q E ⟨a, l, n, e1, _⟩ => by rw [e1]; rfl
theorem rd__law_any : ∀ ds M Q E, sp__law_any ds M Q E → t__law_any sp__law_draw (endF Q E) (startD ["hand", "some"] ds) M := by
  rintro ds M Q E ⟨h, l, xs, rfl, hM, hl, hx, hx2, q⟩
  have hp : 0 < xs.length := List.length_pos_iff.mpr hx
  simp only [t__law_any, startD, List.map_cons, List.map_nil, List.length_cons, List.length_nil, List.replicate, z_ret, z_op, z_var, z_call, z_cons, z_nil, z_fn, List.cons_append, List.nil_append, z_get0, z_get1, ok1_some, z_lenL]
  refine ⟨h, l, _, rfl, hM, hl, by omega, by omega, fun v l' h1 h2 hl' => ?_⟩
  obtain ⟨i, rfl⟩ := Int.eq_ofNat_of_zero_le h1
  have hi : i < xs.length := by omega
  rw [z_ixL, z_atN, List.getElem?_eq_getElem hi]
  exact endF_rt (q _ l' (List.getElem_mem hi) hl')
/-! hand -/
def sp__law_hand : DSp := fun ds M Q _ => ∃ ns : List Int, ds = [.scr (ns.map D.int)] ∧ ns.length ≤ 63 ∧ ∀ p l, M p = none → HandOk l → Q (.ref p) (put M p (.lst l))
theorem mono_hand : MonoP sp__law_hand := fun ds M Q Q' E E' h _ ⟨n, e1, e2, q⟩ => ⟨n, e1, e2, fun p l h1 h2 => h _ _ (q p l h1 h2)⟩
theorem len_hand : ∀ ds M Q E, sp__law_hand ds M Q E → ds.length = 1 := fun ds M Q E ⟨n, e1, _⟩ => by rw [e1]; rfl
theorem rd__law_hand : ∀ ds M Q E, sp__law_hand ds M Q E → t__law_hand (endF Q E) (startD ["script", "cells", "cell"] ds) M := by
  rintro ds M Q E ⟨ns, rfl, hl, q⟩
  simp only [t__law_hand, startD, List.map_cons, List.map_nil, List.length_cons, List.length_nil, List.replicate, z_seq, z_asg, z_comp, z_iseq, z_part, z_var, z_onone, z_osome, z_c, List.cons_append, List.nil_append, z_get0, z_get1, ok1_some, z_partS, z_itL, Nat.reduceSub, Nat.zero_add]
  intro p hp
  have ec : cutD (ns.map D.int) none (some 63) = ns.map D.int := by
    rw [show (63 : Int) = ((63 : Nat) : Int) from rfl, cut_to, List.take_of_length_le (by simpa using hl)]
  rw [ec]
  refine comp_map monoG_var (mono_fn (mono_cons (mono_fn (mono_cons mono_var mono_nil)) mono_nil)) (fun d => match d with | .int i => .int (if i < 0 then -i else i) | d => d) hp trivial _ [] (fun x hx => ?_) ?_
  · obtain ⟨i, _, rfl⟩ := List.mem_map.mp hx
    simp only [z_wipe1, z_wipe0, z_set0, z_set1, z_gvar, z_fn, z_cons, z_nil, z_var, z_get0, z_get1, ok1_some, z_int, z_abs]
    exact ⟨trivial, trivial⟩
  · rw [List.nil_append, List.map_map, del_put hp]
    simp only [z_gvar, z_set0, z_set1, z_ret, z_lstM, z_cons, z_nil, z_var, z_get0, z_get1, ok1_some, z_c, z_op, z_fn, z_lenL, z_mulc' (show small 61 = true by decide), z_add]
    refine ⟨by show (5 : Nat) ≤ sizeLine; decide, fun p hp => endF_rt (q p _ hp ⟨ns.map fun i => if i < 0 then -i else i, 0, 0, 1733 + 61 * (ns.length : Int), 0, ?_, by decide, by decide, by omega, by omega⟩)⟩
    simp [List.map_map]
/-! the gate -/
def dG (a b c : Int) : D := .tup [.int a, .int b, .int c]
def sp__law_gate : DSp := fun ds M Q _ => ∃ h l, ds = [.ref h] ∧ M h = some (.lst l) ∧ HandOk l ∧ ∀ a b c l', 0 ≤ a → a < 20 → 0 ≤ b → b < 20 → 0 ≤ c → c < 12 → HandOk l' → Q (dG a b c) (put M h (.lst l'))
theorem mono_gate : MonoP sp__law_gate := fun ds M Q Q' E E' h _ ⟨a, l, e1, e2, e3, q⟩ => ⟨a, l, e1, e2, e3, fun a b c l' h1 h2 h3 h4 h5 h6 h7 => h _ _ (q a b c l' h1 h2 h3 h4 h5 h6 h7)⟩
theorem len_gate : ∀ ds M Q E, sp__law_gate ds M Q E → ds.length = 1 := fun ds M Q E ⟨a, l, e1, _⟩ => by rw [e1]; rfl
theorem rd__law_gate : ∀ ds M Q E, sp__law_gate ds M Q E → t__law_gate sp__law_draw sp__law_any (endF Q E) (startD ["hand"] ds) M := by
  rintro ds M Q E ⟨h, l, rfl, hM, hl, q⟩
  simp only [t__law_gate, startD, List.map_cons, List.map_nil, List.length_cons, List.length_nil, List.replicate, z_ret, z_tup, z_call, z_cons, z_nil, z_var, z_lst, z_c, List.cons_append, List.nil_append, z_get0, ok1_some]
  have sz : (0 + 1 + 1 + 1 : Nat) ≤ sizeLine := by decide
  have pick : ∀ (x y z : Int) (M1 : Mp) (l1 : List D) (K : D → Mp → Prop) (E1 E2 : DX), 0 < x → x ≤ 20 → 0 < y → y ≤ 20 → 0 < z → z ≤ 20 → M1 h = some (.lst l1) → HandOk l1 → (∀ v l2 m, (m = x ∨ m = y ∨ m = z) → 0 ≤ v → v < m → HandOk l2 → K (.int v) (put M1 h (.lst l2))) →
      sp__law_any [.ref h, .lst [.int x, .int y, .int z]] M1 (fun d M2 => sp__law_draw [.ref h, d] M2 K E1) E2 := fun x y z M1 l1 K E1 E2 x0 x1 y0 y1 z0 z1 h1 h2 k =>
    ⟨h, l1, _, rfl, h1, h2, by simp, by show (3 : Nat) < 1000000; decide, fun d l' hd hl' => by
      simp only [List.mem_cons, List.not_mem_nil, or_false] at hd
      rcases hd with rfl | rfl | rfl
      · exact ⟨h, l', x, rfl, put_same, hl', by omega, by omega, fun v l2 h3 h4 h5 => by rw [put_put]; exact k v l2 x (.inl rfl) h3 h4 h5⟩
      · exact ⟨h, l', y, rfl, put_same, hl', by omega, by omega, fun v l2 h3 h4 h5 => by rw [put_put]; exact k v l2 y (.inr (.inl rfl)) h3 h4 h5⟩
      · exact ⟨h, l', z, rfl, put_same, hl', by omega, by omega, fun v l2 h3 h4 h5 => by rw [put_put]; exact k v l2 z (.inr (.inr rfl)) h3 h4 h5⟩⟩
  refine ⟨sz, pick 1 4 20 M l _ _ _ (by decide) (by decide) (by decide) (by decide) (by decide) (by decide) hM hl fun a l1 m1 e1 a0 a1 hl1 => ?_⟩
  refine ⟨sz, pick 1 4 20 _ l1 _ _ _ (by decide) (by decide) (by decide) (by decide) (by decide) (by decide) put_same hl1 fun b l2 m2 e2 b0 b1 hl2 => ?_⟩
  refine ⟨sz, pick 1 3 12 _ l2 _ _ _ (by decide) (by decide) (by decide) (by decide) (by decide) (by decide) put_same hl2 fun c l3 m3 e3 c0 c1 hl3 => ?_⟩
  refine ⟨sz, endF_rt ?_⟩
  rw [put_put, put_put]
  exact q a b c l3 a0 (by omega) b0 (by omega) c0 (by omega) hl3
end K69

/-! k69: the plain law of the gates. -/
namespace K69
open PySem PySem.Spec PyProof.Rows L2 DL
abbrev Pr := Int × Int
def leP (p q : Pr) : Bool := decide (p.1 < q.1 ∨ (p.1 = q.1 ∧ p.2 ≤ q.2))
def wdn (a b : Int) (p : Pr) : Pr := (if p.1 - a > 0 then p.1 - a else 0, p.2 + b)
def mg1 (c : Int) (f : List Pr) (x : Pr) : List Pr := match f.getLast? with
  | none => [x]
  | some l => if x.1 ≤ l.2 ∨ x.1 - l.2 < c then f.dropLast ++ [(l.1, if x.2 > l.2 then x.2 else l.2)] else f ++ [x]
def shutL (a b c : Int) (ps : List Pr) : List Pr := ((ps.map (wdn a b)).mergeSort leP).foldl (mg1 c) []
theorem mg1_nil {c : Int} {x : Pr} : mg1 c [] x = [x] := rfl
theorem mg1_snoc {c : Int} {g : List Pr} {l x : Pr} : mg1 c (g ++ [l]) x = if x.1 ≤ l.2 ∨ x.1 - l.2 < c then g ++ [(l.1, if x.2 > l.2 then x.2 else l.2)] else g ++ [l] ++ [x] := by
  unfold mg1
  rw [List.getLast?_append, List.dropLast_concat]
  rfl
def cov (f : List Pr) (t : Int) : Prop := ∃ p ∈ f, p.1 ≤ t ∧ t < p.2
def shutP (c : Int) (l : List Pr) (t : Int) : Prop := ∃ p ∈ l, p.1 ≤ t ∧ (t < p.2 ∨ ∃ q ∈ l, t < q.1 ∧ q.1 - p.2 < c)
def adj (m : Int) : List Pr → Prop
  | x :: y :: r => m ≤ y.1 - x.2 ∧ adj m (y :: r)
  | _ => True
theorem adj_snoc {m : Int} {l x : Pr} (h : m ≤ x.1 - l.2) : ∀ g : List Pr, adj m (g ++ [l]) → adj m (g ++ [l] ++ [x])
  | [], _ => ⟨h, trivial⟩
  | [y], q => ⟨q.1, h, trivial⟩
  | y :: z :: r, q => ⟨q.1, adj_snoc h (z :: r) q.2⟩
theorem adj_repl {m : Int} {l l' : Pr} (h : l'.1 = l.1) : ∀ g : List Pr, adj m (g ++ [l]) → adj m (g ++ [l'])
  | [], _ => trivial
  | [y], q => ⟨by rw [h]; exact q.1, trivial⟩
  | y :: z :: r, q => ⟨q.1, adj_repl h (z :: r) q.2⟩
def Okp (B : Int) (p : Pr) : Prop := 0 ≤ p.1 ∧ p.1 < p.2 ∧ p.2 ≤ B
structure MI (B c : Int) (pre f : List Pr) : Prop where
  ok : ∀ p ∈ f, Okp B p
  adj : adj (if c > 1 then c else 1) f
  cov : ∀ t, cov f t ↔ shutP c pre t
  last : ∃ g l, f = g ++ [l] ∧ (∀ p ∈ pre, p.2 ≤ l.2) ∧ ∃ p ∈ pre, p.2 = l.2
theorem mi_one {B c : Int} {x : Pr} (hx : Okp B x) : MI B c [x] [x] := by
  refine ⟨fun p hp => by rw [List.mem_singleton.mp hp]; exact hx, trivial, fun t => ⟨?_, ?_⟩, [], x, rfl, fun p hp => by rw [List.mem_singleton.mp hp]; exact Int.le_refl _, x, List.mem_singleton.mpr rfl, rfl⟩
  · rintro ⟨p, hp, h1, h2⟩
    exact ⟨p, hp, h1, .inl h2⟩
  · rintro ⟨p, hp, h1, h2⟩
    refine ⟨p, hp, h1, ?_⟩
    rcases h2 with h2 | ⟨q, hq, h3, _⟩
    · exact h2
    · rw [List.mem_singleton.mp hp] at h1
      rw [List.mem_singleton.mp hq] at h3
      omega
theorem mi_step {B c : Int} {pre f : List Pr} {x : Pr} (hx : Okp B x) (hp : ∀ p ∈ pre, Okp B p) (hs : ∀ p ∈ pre, p.1 ≤ x.1) (I : MI B c pre f) : MI B c (pre ++ [x]) (mg1 c f x) := by
  obtain ⟨g, l, rfl, hm, pm, pmem, pme⟩ := I.last
  rw [mg1_snoc]
  have hl : Okp B l := I.ok l (by simp)
  obtain ⟨x0, x1, x2⟩ := hx
  obtain ⟨l0, l1, l2⟩ := hl
  have memx : x ∈ pre ++ [x] := by simp
  have mem1 : ∀ {p : Pr}, p ∈ pre → p ∈ pre ++ [x] := fun h => List.mem_append_left _ h
  have spl : ∀ {p : Pr}, p ∈ pre ++ [x] → p ∈ pre ∨ p = x := fun h => by simpa using h
  have up : ∀ t, shutP c pre t → shutP c (pre ++ [x]) t := fun t ⟨p, m, h1, h2⟩ => ⟨p, mem1 m, h1, h2.imp id fun ⟨q, mq, h3⟩ => ⟨q, mem1 mq, h3⟩⟩
  obtain ⟨pm0, pm1, pm2⟩ := hp pm pmem
  split
  · rename_i hc
    refine ⟨fun p h => ?_, adj_repl (l := l) (l' := (l.1, if x.2 > l.2 then x.2 else l.2)) rfl g I.adj, fun t => ⟨?_, ?_⟩, g, _, rfl, fun p h => ?_, ?_⟩
    · rcases List.mem_append.mp h with h | h
      · exact I.ok p (by simp [h])
      · rw [List.mem_singleton.mp h]
        refine ⟨l0, ?_, ?_⟩
        · show l.1 < if x.2 > l.2 then x.2 else l.2
          split <;> omega
        · show (if x.2 > l.2 then x.2 else l.2) ≤ B
          split <;> omega
    · rintro ⟨p, h, h1, h2⟩
      rcases List.mem_append.mp h with h | h
      · exact up t ((I.cov t).mp ⟨p, by simp [h], h1, h2⟩)
      · rw [List.mem_singleton.mp h] at h1 h2
        dsimp only at h1 h2
        by_cases ht : t < l.2
        · exact up t ((I.cov t).mp ⟨l, by simp, h1, ht⟩)
        · have h3 : t < x.2 := by
            split at h2
            · exact h2
            · omega
          by_cases h4 : x.1 ≤ t
          · exact ⟨x, memx, h4, .inl h3⟩
          · exact ⟨pm, mem1 pmem, by omega, .inr ⟨x, memx, by omega, by omega⟩⟩
    · rintro ⟨p, hh, h1, h2⟩
      have big : ∀ {z : Int}, l.2 ≤ z → z < (if x.2 > l.2 then x.2 else l.2) → cov (g ++ [(l.1, if x.2 > l.2 then x.2 else l.2)]) z := fun {z} a b => ⟨_, List.mem_append_right _ (List.mem_singleton.mpr rfl), by dsimp only; omega, b⟩
      have old : ∀ {z : Int}, shutP c pre z → cov (g ++ [(l.1, if x.2 > l.2 then x.2 else l.2)]) z := fun {z} a => by
        obtain ⟨b, mb, b1, b2⟩ := (I.cov z).mpr a
        rcases List.mem_append.mp mb with mb | mb
        · exact ⟨b, by simp [mb], b1, b2⟩
        · rw [List.mem_singleton.mp mb] at b1 b2
          refine ⟨_, List.mem_append_right _ (List.mem_singleton.mpr rfl), b1, ?_⟩
          dsimp only
          split <;> omega
      have low : t < l.2 → x.1 ≤ t → cov (g ++ [(l.1, if x.2 > l.2 then x.2 else l.2)]) t := fun a b => old ⟨pm, pmem, by have := hs pm pmem; omega, .inl (by omega)⟩
      rcases spl hh with h | rfl
      · rcases h2 with h2 | ⟨q, hq, h3, h4⟩
        · exact old ⟨p, h, h1, .inl h2⟩
        · rcases spl hq with hq | rfl
          · exact old ⟨p, h, h1, .inr ⟨q, hq, h3, h4⟩⟩
          · by_cases ht : t < l.2
            · by_cases h5 : pm.1 ≤ t
              · exact old ⟨pm, pmem, h5, .inl (by omega)⟩
              · exact old ⟨p, h, h1, .inr ⟨pm, pmem, by omega, by have := hs pm pmem; omega⟩⟩
            · exact big (by omega) (by split <;> omega)
      · rcases h2 with h2 | ⟨q, hq, h3, h4⟩
        · by_cases ht : t < l.2
          · exact low ht h1
          · exact big (by omega) (by split <;> omega)
        · rcases spl hq with hq | rfl
          · have := hs q hq; omega
          · omega
    · dsimp only
      rcases spl h with h | rfl
      · have := hm p h
        split <;> omega
      · split <;> omega
    · dsimp only
      by_cases h : x.2 > l.2
      · exact ⟨x, memx, by rw [if_pos h]⟩
      · exact ⟨pm, mem1 pmem, by rw [if_neg h]; exact pme⟩
  · rename_i hc
    have hc1 : l.2 < x.1 := by omega
    have hc2 : c ≤ x.1 - l.2 := by omega
    refine ⟨fun p h => ?_, adj_snoc (by split <;> omega) g I.adj, fun t => ⟨?_, ?_⟩, g ++ [l], x, rfl, fun p h => ?_, x, memx, rfl⟩
    · rcases List.mem_append.mp h with h | h
      · exact I.ok p h
      · rw [List.mem_singleton.mp h]; exact ⟨x0, x1, x2⟩
    · rintro ⟨p, h, h1, h2⟩
      rcases List.mem_append.mp h with h | h
      · exact up t ((I.cov t).mp ⟨p, h, h1, h2⟩)
      · rw [List.mem_singleton.mp h] at h1 h2
        exact ⟨x, memx, h1, .inl h2⟩
    · rintro ⟨p, hh, h1, h2⟩
      have old : shutP c pre t → cov (g ++ [l] ++ [x]) t := fun a => by
        obtain ⟨b, mb, b1⟩ := (I.cov t).mpr a
        exact ⟨b, List.mem_append_left _ mb, b1⟩
      rcases spl hh with h | rfl
      · rcases h2 with h2 | ⟨q, hq, h3, h4⟩
        · exact old ⟨p, h, h1, .inl h2⟩
        · rcases spl hq with hq | rfl
          · exact old ⟨p, h, h1, .inr ⟨q, hq, h3, h4⟩⟩
          · have := hm p h; omega
      · rcases h2 with h2 | ⟨q, hq, h3, h4⟩
        · exact ⟨p, List.mem_append_right _ (List.mem_singleton.mpr rfl), h1, h2⟩
        · rcases spl hq with hq | rfl
          · have := hs q hq; omega
          · omega
    · rcases spl h with h | rfl
      · have := hm p h; omega
      · exact Int.le_refl _
theorem mi_fold {B c : Int} : ∀ (l pre f : List Pr), pre ≠ [] → (∀ p ∈ pre ++ l, Okp B p) → (pre ++ l).Pairwise (fun p q => p.1 ≤ q.1) → MI B c pre f → MI B c (pre ++ l) (l.foldl (mg1 c) f)
  | [], pre, f, _, _, _, I => by simpa using I
  | x :: l, pre, f, hn, hok, hp, I => by
    have e : pre ++ x :: l = (pre ++ [x]) ++ l := by simp
    rw [e] at hok hp ⊢
    refine mi_fold l (pre ++ [x]) _ (by simp) hok hp (mi_step (hok x (by simp)) (fun p h => hok p (by simp [h])) (fun p h => ?_) I)
    have := (List.pairwise_append.mp hp).1
    exact (List.pairwise_append.mp this).2.2 p h x (List.mem_singleton.mpr rfl)
theorem leP_trans (a b c : Pr) : leP a b = true → leP b c = true → leP a c = true := by
  simp only [leP, decide_eq_true_eq]; omega
theorem leP_total (a b : Pr) : (leP a b || leP b a) = true := by
  simp only [leP, Bool.or_eq_true, decide_eq_true_eq]; omega
theorem shutP_perm {c t : Int} {l l' : List Pr} (h : ∀ p, p ∈ l ↔ p ∈ l') : shutP c l t ↔ shutP c l' t := by
  constructor
  · rintro ⟨p, m, h1, h2⟩
    exact ⟨p, (h p).mp m, h1, h2.imp id fun ⟨q, mq, h3⟩ => ⟨q, (h q).mp mq, h3⟩⟩
  · rintro ⟨p, m, h1, h2⟩
    exact ⟨p, (h p).mpr m, h1, h2.imp id fun ⟨q, mq, h3⟩ => ⟨q, (h q).mpr mq, h3⟩⟩
theorem shut_mi {a b c : Int} {ps : List Pr} (hn : ps ≠ []) (ha : 0 ≤ a) (hb : 0 ≤ b) (hb2 : b ≤ 1000) (hp : ∀ p ∈ ps, Okp 1000 p) : ∃ l, (∀ p, p ∈ l ↔ p ∈ ps.map (wdn a b)) ∧ MI 2000 c l (shutL a b c ps) := by
  have ok : ∀ p ∈ (ps.map (wdn a b)).mergeSort leP, Okp 2000 p := fun p h => by
    obtain ⟨q, hq, rfl⟩ := List.mem_map.mp (List.mem_mergeSort.mp h)
    obtain ⟨h0, h1, h2⟩ := hp q hq
    unfold wdn Okp
    dsimp only
    split <;> refine ⟨?_, ?_, ?_⟩ <;> omega
  have srt : ((ps.map (wdn a b)).mergeSort leP).Pairwise (fun p q => p.1 ≤ q.1) := (List.pairwise_mergeSort leP_trans leP_total _).imp fun {p q} h => by
    simp only [leP, decide_eq_true_eq] at h; omega
  refine ⟨(ps.map (wdn a b)).mergeSort leP, fun p => List.mem_mergeSort, ?_⟩
  unfold shutL
  cases q : (ps.map (wdn a b)).mergeSort leP with
  | nil =>
    have := congrArg List.length q
    rw [List.length_mergeSort, List.length_map] at this
    exact absurd (List.length_eq_zero_iff.mp this) hn
  | cons x l =>
    rw [q] at ok srt
    exact mi_fold l [x] [x] (by simp) ok srt (mi_one (ok x (by simp)))
/-- a wide gate is shut whenever the narrow one is -/
theorem wide_shut {a b c a' b' c' t : Int} {ps : List Pr} (hp : ∀ p ∈ ps, Okp 1000 p) (ha : a ≤ a') (ha0 : 0 ≤ a) (hb : b ≤ b') (hb0 : 0 ≤ b) (hc : c ≤ c') (h : shutP c (ps.map (wdn a b)) t) : shutP c' (ps.map (wdn a' b')) t := by
  obtain ⟨p, m, h1, h2⟩ := h
  obtain ⟨p, mp, rfl⟩ := List.mem_map.mp m
  obtain ⟨p0, p1, p2⟩ := hp p mp
  have fst : ∀ r : Pr, (wdn a' b' r).1 ≤ (wdn a b r).1 := fun r => by
    unfold wdn; dsimp only; split <;> split <;> omega
  have snd : ∀ r : Pr, (wdn a b r).2 ≤ (wdn a' b' r).2 := fun r => by
    unfold wdn; dsimp only; omega
  rcases h2 with h2 | ⟨q, mq, h3, h4⟩
  · exact ⟨_, List.mem_map.mpr ⟨p, mp, rfl⟩, Int.le_trans (fst p) h1, .inl (Int.lt_of_lt_of_le h2 (snd p))⟩
  · obtain ⟨q, mq', rfl⟩ := List.mem_map.mp mq
    obtain ⟨q0, q1, q2⟩ := hp q mq'
    by_cases hq : (wdn a' b' q).1 ≤ t
    · refine ⟨_, List.mem_map.mpr ⟨q, mq', rfl⟩, hq, .inl ?_⟩
      have : (wdn a b q).1 < (wdn a' b' q).2 := by unfold wdn; dsimp only; split <;> omega
      omega
    · refine ⟨_, List.mem_map.mpr ⟨p, mp, rfl⟩, Int.le_trans (fst p) h1, .inr ⟨_, List.mem_map.mpr ⟨q, mq', rfl⟩, by omega, ?_⟩⟩
      have := fst q; have := snd p; omega
/-- a passage's own times -/
theorem own_shut {a b c t : Int} {ps : List Pr} {p : Pr} (mp : p ∈ ps) (h0 : Okp 1000 p) (ha : 0 ≤ a) (hb : 0 ≤ b) (h1 : (wdn a b p).1 ≤ t) (h2 : t < p.2) : shutP c (ps.map (wdn a b)) t :=
  ⟨_, List.mem_map.mpr ⟨p, mp, rfl⟩, h1, .inl (by unfold wdn; dsimp only; omega)⟩
end K69

namespace K69
open PySem PySem.Spec PyProof.Rows L2 DL
/-! pairs as data -/
def dP (p : Pr) : D := .tup [.int p.1, .int p.2]
def dPs (ps : List Pr) : D := .tup (ps.map dP)
theorem ixP0 {M : Mp} {p : Pr} : fIx (dP p) (.int 0) M = some (.int p.1) := by simp [dP]
theorem ixP1 {M : Mp} {p : Pr} : fIx (dP p) (.int 1) M = some (.int p.2) := by simp [dP]
theorem dle_P (p q : Pr) : dle (dP p) (dP q) = leP p q := by
  unfold dle
  rw [PySem.W.dataLe_eq]
  simp only [dP, pyT, pyTs, cond_false, PySem.W.dataLt_ii, leP]
  by_cases h : q.1 < p.1 ∨ q.1 = p.1 ∧ q.2 < p.2
  · rw [decide_eq_true h, decide_eq_false (by omega)]; rfl
  · rw [decide_eq_false h, decide_eq_true (by omega)]; rfl
theorem alike_P (p q : Pr) : PySem.W.alike (pyT (dP p)) (pyT (dP q)) = true := by
  simp [dP, pyT, pyTs, PySem.W.alike, PySem.W.alikeAll]
theorem shp_P (p : Pr) : shp 60 (dP p) = true := by simp [dP, shp]
theorem sorted_P {M : Mp} (l : List Pr) : gSorted [.lst (l.map dP)] M = some (.lst ((l.mergeSort leP).map dP)) := by
  show (if ((l.map dP).all (shp 60) && alikeB (l.map dP) && sortB (l.map dP)) = true then _ else _) = _
  rw [if_pos, List.map_mergeSort (s := dle) fun a _ b _ => (dle_P a b).symm]
  have h1 : (l.map dP).all (shp 60) = true := List.all_eq_true.mpr fun d hd => by
    obtain ⟨p, _, rfl⟩ := List.mem_map.mp hd; exact shp_P p
  have h2 : alikeB (l.map dP) = true := List.all_eq_true.mpr fun d hd => List.all_eq_true.mpr fun e he => by
    obtain ⟨p, _, rfl⟩ := List.mem_map.mp hd
    obtain ⟨q, _, rfl⟩ := List.mem_map.mp he
    exact alike_P p q
  have h3 : sortB (l.map dP) = true := Bool.or_eq_true_iff.mpr (.inl (List.all_eq_true.mpr fun d hd => by
    obtain ⟨p, _, rfl⟩ := List.mem_map.mp hd; rfl))
  rw [h1, h2, h3]; rfl
/-! the functions asked about things -/
def sp_is_sized : DSp := fun ds M Q _ => ∃ xs lo hi, ds = [.tup xs, .int lo, .int hi] ∧ Q (.bl (decide (lo ≤ (xs.length : Int)) && decide ((xs.length : Int) ≤ hi))) M
theorem mono_sized : MonoP sp_is_sized := fun ds M Q Q' E E' h _ ⟨a, l, n, e1, q⟩ => ⟨a, l, n, e1, h _ _ q⟩
theorem len_sized : ∀ ds M Q E, sp_is_sized ds M Q E → ds.length = 3 := fun ds M Q E ⟨a, l, n, e1, _⟩ => by rw [e1]; rfl
theorem rd_is_sized : ∀ ds M Q E, sp_is_sized ds M Q E → t_is_sized (endF Q E) (startD ["thing", "low", "high"] ds) M := by
  rintro ds M Q E ⟨xs, lo, hi, rfl, q⟩
  simp [t_is_sized, startD]
  split
  · rename_i h; refine endF_rt ?_; simpa [h] using q
  · rename_i h; refine endF_rt ?_; simpa [h] using q
def GateOk (a b c : Int) : Prop := (0 ≤ a ∧ a ≤ 1000) ∧ (0 ≤ b ∧ b ≤ 1000) ∧ 0 ≤ c ∧ c ≤ 1000
def sp_is_gate : DSp := fun ds M Q _ => ∃ a b c, ds = [dG a b c] ∧ GateOk a b c ∧ Q (.bl true) M
theorem mono_is_gate : MonoP sp_is_gate := fun ds M Q Q' E E' h _ ⟨a, l, n, e1, e2, q⟩ => ⟨a, l, n, e1, e2, h _ _ q⟩
theorem len_is_gate : ∀ ds M Q E, sp_is_gate ds M Q E → ds.length = 1 := fun ds M Q E ⟨a, l, n, e1, _⟩ => by rw [e1]; rfl
theorem rd_is_gate : ∀ ds M Q E, sp_is_gate ds M Q E → t_is_gate sp_is_within sp_is_sized (endF Q E) (startD ["thing", "one"] ds) M := by
  rintro ds M Q E ⟨a, b, c, rfl, ⟨⟨a0, a1⟩, ⟨b0, b1⟩, c0, c1⟩, q⟩
  simp only [t_is_gate, startD, List.map_cons, List.map_nil, List.length_cons, List.length_nil, List.replicate, Nat.reduceSub, Nat.zero_add, Nat.reduceAdd, List.cons_append, List.nil_append, z_ret, z_and, z_call, z_cons, z_nil, z_var, z_get0, z_get1, ok1_some, z_c, dG]
  refine ⟨_, _, _, rfl, ?_⟩
  simp [g_is_within, a0, a1, b0, b1, c0, c1]
  intro p hp
  rw [show del (put M p .priv) p = M from del_put hp]
  simp [put_same]
  exact endF_rt q
def sp_is_passage : DSp := fun ds M Q _ => ∃ p : Pr, ds = [dP p] ∧ 0 ≤ p.1 ∧ p.1 < p.2 ∧ p.2 ≤ 100000 ∧ Q (.bl true) M
theorem mono_is_passage : MonoP sp_is_passage := fun ds M Q Q' E E' h _ ⟨a, e1, e2, e3, e4, q⟩ => ⟨a, e1, e2, e3, e4, h _ _ q⟩
theorem len_is_passage : ∀ ds M Q E, sp_is_passage ds M Q E → ds.length = 1 := fun ds M Q E ⟨a, e1, _⟩ => by rw [e1]; rfl
theorem rd_is_passage : ∀ ds M Q E, sp_is_passage ds M Q E → t_is_passage sp_is_within sp_is_sized (endF Q E) (startD ["thing", "one"] ds) M := by
  rintro ds M Q E ⟨⟨x, y⟩, rfl, h0, h1, h2, q⟩
  dsimp only at h0 h1 h2
  simp only [t_is_passage, startD, List.map_cons, List.map_nil, List.length_cons, List.length_nil, List.replicate, Nat.reduceSub, Nat.zero_add, Nat.reduceAdd, List.cons_append, List.nil_append, z_ret, z_and, z_call, z_cons, z_nil, z_var, z_get0, z_get1, ok1_some, z_c, dP]
  refine ⟨_, _, _, rfl, ?_⟩
  simp [g_is_within, h0, h2, show x ≤ 100000 by omega, show 0 ≤ y by omega]
  intro p hp
  rw [show del (put M p .priv) p = M from del_put hp]
  simp [put_same, h1]
  exact endF_rt q
def ltP (p q : Pr) : Prop := p.1 < q.1 ∨ (p.1 = q.1 ∧ p.2 < q.2)
def PsOk (ps : List Pr) : Prop := (1 ≤ ps.length ∧ ps.length ≤ 40) ∧ (∀ p ∈ ps, 0 ≤ p.1 ∧ p.1 < p.2 ∧ p.2 ≤ 100000) ∧ ps.Pairwise ltP
def sp_are_passages : DSp := fun ds M Q _ => ∃ ps : List Pr, ds = [dPs ps] ∧ PsOk ps ∧ Q (.bl true) M
theorem mono_are_passages : MonoP sp_are_passages := fun ds M Q Q' E E' h _ ⟨a, e1, e2, q⟩ => ⟨a, e1, e2, h _ _ q⟩
theorem len_are_passages : ∀ ds M Q E, sp_are_passages ds M Q E → ds.length = 1 := fun ds M Q E ⟨a, e1, _⟩ => by rw [e1]; rfl
theorem flags_true : ∀ n : Nat, flags (List.replicate n (D.bl true)) = some (List.replicate n true)
  | 0 => rfl
  | n + 1 => by simp [List.replicate_succ, flags_true n]
theorem all_true {α : Type} (l : List α) {M : Mp} : gAll [.lst (l.map fun _ => D.bl true)] M = some (.bl true) := by
  rw [z_allL, List.map_const', flags_true]
  simp
theorem lt_P {M : Mp} {p q : Pr} (h : ltP p q) : fLtD (dP p) (dP q) M = some (.bl true) := by
  show (if ordB (dP p) (dP q) = true then some (D.bl (PySem.W.dataLt (pyT (dP p)) (pyT (dP q)))) else none) = _
  rw [if_pos]
  · simp only [dP, pyT, pyTs, PySem.W.dataLt_ii]
    rw [decide_eq_true (by unfold ltP at h; exact h)]
  · unfold ordB
    rw [shp_P, shp_P, alike_P]; rfl
theorem pairs_mem : ∀ {l : List Pr} {d : D}, l.Pairwise ltP → d ∈ pairs (l.map dP) ((l.map dP).drop 1) → ∃ p q, d = .tup [dP p, dP q] ∧ ltP p q
  | [], _, _, h => by simp [pairs] at h
  | [x], _, _, h => by simp [pairs] at h
  | x :: y :: r, d, hp, h => by
    simp only [List.map_cons, List.drop_succ_cons, List.drop_zero, pairs, List.mem_cons] at h
    rcases h with rfl | h
    · exact ⟨x, y, rfl, (List.pairwise_cons.mp hp).1 y List.mem_cons_self⟩
    · refine pairs_mem (l := y :: r) (List.pairwise_cons.mp hp).2 ?_
      simpa using h
theorem rd_are_passages : ∀ ds M Q E, sp_are_passages ds M Q E → t_are_passages sp_is_sized sp_is_passage (endF Q E) (startD ["thing", "one", "other"] ds) M := by
  rintro ds M Q E ⟨ps, rfl, ⟨⟨l1, l2⟩, ok, asc⟩, q⟩
  have m1 : MonoA (dCons (dVar 1) dNil) := mono_cons mono_var mono_nil
  simp only [t_are_passages, startD, List.map_cons, List.map_nil, List.length_cons, List.length_nil, List.replicate, Nat.reduceSub, Nat.zero_add, Nat.reduceAdd, List.cons_append, List.nil_append, z_seq, z_if, z_tor, z_tnot, z_tOf, z_call, z_cons, z_nil, z_var, z_get0, z_get1, ok1_some, z_c, dPs]
  refine ⟨_, _, _, rfl, ?_⟩
  rw [List.length_map, decide_eq_true (by omega : (1 : Int) ≤ (ps.length : Int)), decide_eq_true (by omega : (ps.length : Int) ≤ 40)]
  simp only [Bool.and_self, z_bool1, ok1_some, Bool.not_true, Bool.false_eq_true, if_false, z_fn, z_cons, z_nil, z_comp, z_iseq, z_var, z_get0, z_itT]
  intro p hp
  refine comp_map monoG_var (mono_call mono_is_passage m1) (fun _ => .bl true) hp trivial _ [] (fun x hx => ?_) ?_
  · obtain ⟨r, hr, rfl⟩ := List.mem_map.mp hx
    obtain ⟨a0, a1, a2⟩ := ok r hr
    exact ⟨r, rfl, a0, a1, a2, rfl, rfl⟩
  · rw [List.nil_append, List.map_map, del_put hp, show ((fun _ => D.bl true) ∘ dP) = fun _ : Pr => D.bl true from rfl, all_true]
    simp only [ok1_some, z_bool1, Bool.not_true, Bool.false_eq_true, if_false, z_next, z_ret, z_fn, z_cons, z_nil, z_comp, z_izip, z_var, z_get0, z_part, z_osome, z_c, z_onone, z_partT, z_alT, z_itT, cut1]
    refine ⟨trivial, fun p2 hp2 => ?_⟩
    refine comp_map (monoG_tup (monoG_cons monoG_var (monoG_cons monoG_var monoG_nil))) (mono_op mono_var mono_var) (fun _ => .bl true) hp2 (by simp) _ [] (fun x hx => ?_) ?_
    · obtain ⟨a, b, rfl, hab⟩ := pairs_mem asc hx
      simp only [z_gtup, z_gcons, z_gnil, z_gvar, z_wipe1, z_wipe0, z_set0, z_set1, z_op, z_var, z_get0, z_get1, ok1_some, lt_P hab]
      exact ⟨rfl, trivial, trivial⟩
    · rw [List.nil_append, del_put hp2, all_true]
      exact endF_rt q
def sp_check_gate : DSp := fun ds M Q _ => ∃ a b c ps, ds = [dG a b c, dPs ps] ∧ GateOk a b c ∧ PsOk ps ∧ Q .non M
theorem mono_check_gate : MonoP sp_check_gate := fun ds M Q Q' E E' h _ ⟨a, b, c, ps, e1, e2, e3, q⟩ => ⟨a, b, c, ps, e1, e2, e3, h _ _ q⟩
theorem len_check_gate : ∀ ds M Q E, sp_check_gate ds M Q E → ds.length = 2 := fun ds M Q E ⟨a, b, c, ps, e1, _⟩ => by rw [e1]; rfl
theorem rd_check_gate : ∀ ds M Q E, sp_check_gate ds M Q E → t_check_gate sp_is_gate sp_are_passages (endF Q E) (startD ["gate", "passages"] ds) M := by
  rintro ds M Q E ⟨a, b, c, ps, rfl, hg, hp, q⟩
  simp only [t_check_gate, startD, List.map_cons, List.map_nil, List.length_cons, List.length_nil, List.replicate, Nat.reduceSub, Nat.zero_add, Nat.reduceAdd, List.cons_append, List.nil_append, z_seq, z_if, z_tnot, z_tOf, z_call, z_cons, z_nil, z_var, z_get0, z_get1, ok1_some]
  refine ⟨a, b, c, rfl, hg, ?_⟩
  simp only [z_bool1, ok1_some, Bool.not_true, Bool.false_eq_true, if_false, z_next]
  refine ⟨ps, rfl, hp, ?_⟩
  simp only [z_bool1, ok1_some, Bool.not_true, Bool.false_eq_true, if_false, z_next]
  exact ⟨M, Sub.refl, q⟩
def sp_check_time : DSp := fun ds M Q _ => ∃ t, ds = [.int t] ∧ 0 ≤ t ∧ t ≤ 1000000 ∧ Q .non M
theorem mono_check_time : MonoP sp_check_time := fun ds M Q Q' E E' h _ ⟨a, e1, e2, e3, q⟩ => ⟨a, e1, e2, e3, h _ _ q⟩
theorem len_check_time : ∀ ds M Q E, sp_check_time ds M Q E → ds.length = 1 := fun ds M Q E ⟨a, e1, _⟩ => by rw [e1]; rfl
theorem rd_check_time : ∀ ds M Q E, sp_check_time ds M Q E → t_check_time sp_is_within (endF Q E) (startD ["time"] ds) M := by
  rintro ds M Q E ⟨t, rfl, h0, h1, q⟩
  simp [t_check_time, startD, g_is_within, h0, show t ≤ 9999999999999999999999999999999999999999 by omega]
  exact ⟨M, Sub.refl, q⟩
end K69

namespace K69
open PySem PySem.Spec PyProof.Rows L2 DL
def sp_raw_shut : DSp := fun ds M Q _ => ∃ a b c ps, ds = [dG a b c, dPs ps] ∧ ps.length ≤ 100 ∧ Q (.lst ((shutL a b c ps).map dP)) M
theorem mono_raw : MonoP sp_raw_shut := fun ds M Q Q' E E' h _ ⟨a, b, c, ps, e1, e2, q⟩ => ⟨a, b, c, ps, e1, e2, h _ _ q⟩
theorem len_raw : ∀ ds M Q E, sp_raw_shut ds M Q E → ds.length = 2 := fun ds M Q E ⟨a, b, c, ps, e1, _⟩ => by rw [e1]; rfl
theorem mg1_len (c : Int) (f : List Pr) (x : Pr) : (mg1 c f x).length ≤ f.length + 1 := by
  rcases List.eq_nil_or_concat f with rfl | ⟨g, l, rfl⟩
  · rw [mg1_nil]; simp
  · rw [List.concat_eq_append, mg1_snoc]
    split <;> simp
/-- the loop's body -/
def rawB : DS := (sIf (tAnd (tOf (dOp fGtD (dFn gLen (dCons (dVar 5) dNil)) (dC (.int 0)))) (tOr (tOf (dOp fLeD (dVar 6) (dOp fIx (dOp fIx (dVar 5) (dNeg (dC (.int 1)))) (dC (.int 1))))) (tOf (dOp fLtD (dOp fSub (dVar 6) (dOp fIx (dOp fIx (dVar 5) (dNeg (dC (.int 1)))) (dC (.int 1)))) (dVar 4))))) (sAsg (dTup (dCons (dOp fIx (dOp fIx (dVar 5) (dNeg (dC (.int 1)))) (dC (.int 0))) (dCons (dFn gMax (dCons (dOp fIx (dOp fIx (dVar 5) (dNeg (dC (.int 1)))) (dC (.int 1))) (dCons (dVar 7) dNil))) dNil))) (gSub (dVar 5) (dNeg (dC (.int 1))))) (sDrop (dMeth tyLst rApp (dVar 5) (dCons (dTup (dCons (dVar 6) (dCons (dVar 7) dNil))) dNil))))
theorem mono_ix {a b : DE} (m : MonoE a) (n : MonoE b) {f : O2} : MonoE (dOp f a b) := mono_op m n
theorem mono_rawB : MonoS rawB := by
  have l5 : MonoE (dOp fIx (dVar 5) (dNeg (dC (.int 1)))) := mono_op mono_var (mono_neg mono_c)
  exact monoS_if (mono_and (mono_tOf (mono_op (mono_fn (mono_cons mono_var mono_nil)) mono_c)) (mono_or (mono_tOf (mono_op mono_var (mono_op l5 mono_c))) (mono_tOf (mono_op (mono_op mono_var (mono_op l5 mono_c)) mono_var))))
    (monoS_asg (mono_tup (mono_cons (mono_op l5 mono_c) (mono_cons (mono_fn (mono_cons (mono_op l5 mono_c) (mono_cons mono_var mono_nil))) mono_nil))) (monoG_sub mono_var (mono_neg mono_c)))
    (monoS_drop (mono_meth mono_var (mono_cons (mono_tup (mono_cons mono_var (mono_cons mono_var mono_nil))) mono_nil) mono_app))
theorem ixN_last {n : Nat} : L2.ixN (n + 1) (-1) = some n := by
  unfold L2.ixN
  rw [if_neg (by omega), if_pos (by omega)]
  congr 1
  omega
theorem raw_turn {En : DEnds} {g h : D} {a b c : Int} {p : Addr} {f : List Pr} {x : Pr} {M M0 : Mp} (hM : M = put M0 p (.lst (f.map dP))) (hf : f.length < 1000)
    (q : En.nx [some g, some h, some (.int a), some (.int b), some (.int c), some (.ref p), some (.int x.1), some (.int x.2)] (put M0 p (.lst ((mg1 c f x).map dP)))) :
    rawB En [some g, some h, some (.int a), some (.int b), some (.int c), some (.ref p), some (.int x.1), some (.int x.2)] M := by
  have hp : M p = some (.lst (f.map dP)) := by rw [hM, put_same]
  have sz2 : (0 + 1 + 1 : Nat) ≤ sizeLine := by decide
  have app : (f.map dP).length < sizeLine := by rw [List.length_map]; exact Nat.lt_trans hf (by decide)
  unfold rawB
  simp only [z_if, z_tand, z_tor, z_tOf, z_op, z_fn, z_cons, z_nil, z_var, z_get0, z_get1, ok1_some, z_lenR hp, z_c, z_gt, z_bool1, List.length_map, decide_eq_true_eq, z_neg]
  rcases List.eq_nil_or_concat f with rfl | ⟨g', l, rfl⟩
  · simp only [List.length_nil, List.map_nil] at hp q ⊢
    rw [if_neg (by decide)]
    simp only [Bool.false_eq_true, if_false, z_drop, z_meth, z_var, z_get0, z_get1, ok1_some, z_cons, z_nil, z_tup, z_app, hp, List.length_cons, List.length_nil]
    refine ⟨tyLst_of hp, sz2, by decide, ?_⟩
    rw [hM, put_put]
    exact q
  · rw [List.concat_eq_append] at hp q hM ⊢
    rw [mg1_snoc] at q
    have hl : fIx (.ref p) (.int (-1)) M = some (dP l) := by rw [z_ixR hp, List.map_append, List.map_cons, List.map_nil, z_atL]
    rw [if_pos (by rw [List.length_append]; simp only [List.length_cons, List.length_nil]; omega)]
    simp only [hl, ok1_some, ixP1, z_le, z_bool1, decide_eq_true_eq, z_sub, z_lt]
    have done1 : (x.1 ≤ l.2 ∨ x.1 - l.2 < c) → sAsg (dTup (dCons (dOp fIx (dOp fIx (dVar 5) (dNeg (dC (.int 1)))) (dC (.int 0))) (dCons (dFn gMax (dCons (dOp fIx (dOp fIx (dVar 5) (dNeg (dC (.int 1)))) (dC (.int 1))) (dCons (dVar 7) dNil))) dNil))) (gSub (dVar 5) (dNeg (dC (.int 1)))) En [some g, some h, some (.int a), some (.int b), some (.int c), some (.ref p), some (.int x.1), some (.int x.2)] M := fun hc => by
      rw [if_pos hc] at q
      simp only [z_asg, z_tup, z_cons, z_nil, z_op, z_var, z_get0, z_get1, ok1_some, z_neg, z_c, hl, ixP0, ixP1, z_fn, z_max2, List.length_cons, List.length_nil, z_gsub, setR hp]
      refine ⟨sz2, ?_⟩
      rw [List.length_map, List.length_append, show g'.length + [l].length = g'.length + 1 from rfl, ixN_last]
      simp only [Option.map_some, ok1_some]
      rw [hM, put_put, List.map_append, List.map_cons, List.map_nil, List.set_append_right _ _ (by simp)]
      rw [List.length_map, Nat.sub_self, List.set_cons_zero]
      rw [List.map_append] at q
      exact q
    have done2 : ¬ (x.1 ≤ l.2 ∨ x.1 - l.2 < c) → sDrop (dMeth tyLst rApp (dVar 5) (dCons (dTup (dCons (dVar 6) (dCons (dVar 7) dNil))) dNil)) En [some g, some h, some (.int a), some (.int b), some (.int c), some (.ref p), some (.int x.1), some (.int x.2)] M := fun hc => by
      rw [if_neg hc] at q
      simp only [z_drop, z_meth, z_var, z_get0, z_get1, ok1_some, z_cons, z_nil, z_tup, z_app, hp, List.length_cons, List.length_nil]
      rw [List.concat_eq_append] at app
      refine ⟨tyLst_of hp, sz2, app, ?_⟩
      rw [hM, put_put]
      rw [List.map_append (l₁ := g' ++ [l])] at q
      exact q
    by_cases h1 : x.1 ≤ l.2
    · simp only [h1, decide_true, if_true]
      exact done1 (.inl h1)
    · simp only [h1, decide_false, Bool.false_eq_true, if_false]
      by_cases h2 : x.1 - l.2 < c
      · simp only [h2, decide_true, if_true]
        exact done1 (.inr h2)
      · simp only [h2, decide_false, Bool.false_eq_true, if_false]
        exact done2 (by omega)
theorem rd_raw_shut : ∀ ds M Q E, sp_raw_shut ds M Q E → t_raw_shut (endF Q E) (startD ["gate", "passages", "lead", "lag", "gap", "found", "begin", "end"] ds) M := by
  rintro ds M Q E ⟨a, b, c, ps, rfl, hl, q⟩
  show (sSeq (sAsg (dVar 0) (gTup 3 (gCons (gVar 2) (gCons (gVar 3) (gCons (gVar 4) gNil))))) (sSeq (sAsg (dLstM dNil) (gVar 5)) (sSeq (sFor (iSeq (dFn gSorted (dCons (dComp (iSeq (dVar 1)) (gTup 2 (gCons (gVar 6) (gCons (gVar 7) gNil))) tYesD (dTup (dCons (dFn gMax (dCons (dC (.int 0)) (dCons (dOp fSub (dVar 6) (dVar 2)) dNil))) (dCons (dOp fAdd (dVar 7) (dVar 3)) dNil))) [6, 7]) dNil))) (gTup 2 (gCons (gVar 6) (gCons (gVar 7) gNil))) rawB) (sRet (dVar 5))))) (endF Q E) [some (dG a b c), some (dPs ps), none, none, none, none, none, none] M
  have mg : MonoG (gTup 2 (gCons (gVar 6) (gCons (gVar 7) gNil))) := monoG_tup (monoG_cons monoG_var (monoG_cons monoG_var monoG_nil))
  simp only [z_seq, z_asg, z_var, z_get0, z_get1, ok1_some, dG, z_gtup, z_gcons, z_gnil, z_gvar, z_set0, z_set1, z_lstM, z_nil, z_for, z_iseq, z_fn, z_cons, z_comp, dPs, z_itT, List.length_cons, List.length_nil]
  refine ⟨trivial, by decide, fun p hp p2 hp2 => ?_⟩
  refine comp_map mg (mono_tup (mono_cons (mono_fn (mono_cons mono_c (mono_cons (mono_op mono_var mono_var) mono_nil))) (mono_cons (mono_op mono_var mono_var) mono_nil))) (fun d => match d with | .tup [.int x, .int y] => dP (wdn a b (x, y)) | d => d) hp2 trivial _ [] (fun x hx => ?_) ?_
  · obtain ⟨r, _, rfl⟩ := List.mem_map.mp hx
    simp only [dP, z_gtup, z_gcons, z_gnil, z_gvar, z_wipe1, z_wipe0, z_set0, z_set1, z_tup, z_cons, z_nil, z_fn, z_c, z_op, z_var, z_get0, z_get1, ok1_some, z_sub, z_max2, z_add, List.length_cons, List.length_nil]
    exact ⟨trivial, by decide, rfl, trivial⟩
  · rw [List.nil_append, List.map_map, del_put hp2]
    have e1 : (fun d => match d with | D.tup [.int x, .int y] => dP (wdn a b (x, y)) | d => d) ∘ dP = dP ∘ wdn a b := rfl
    rw [e1, ← List.map_map, sorted_P]
    simp only [ok1_some, z_itL]
    refine forT_inv mg mono_rawB (fun rest τ M1 => ∃ (l f : List Pr) (u v : Option D), rest = l.map dP ∧ τ = [some (.tup [.int a, .int b, .int c]), some (.tup (ps.map dP)), some (.int a), some (.int b), some (.int c), some (.ref p), u, v] ∧ M1 = put M p (.lst (f.map dP)) ∧ f.length + l.length ≤ 100 ∧ l.foldl (mg1 c) f = shutL a b c ps)
      (fun x post τ M1 h => ?_) (fun τ M1 h => ?_) _ _ _ ⟨_, [], _, _, rfl, rfl, rfl, by simpa using hl, rfl⟩
    · obtain ⟨l, f, u, v, e, rfl, rfl, hlen, hfold⟩ := h
      cases l with
      | nil => simp at e
      | cons y l =>
        simp only [List.map_cons, List.cons.injEq] at e
        obtain ⟨rfl, rfl⟩ := e
        refine ⟨trivial, ?_⟩
        simp only [dP, z_gtup, z_gcons, z_gnil, z_gvar, z_set0, z_set1, List.length_cons, List.length_nil]
        refine ⟨trivial, raw_turn rfl (by simp only [List.length_cons] at hlen; omega) ?_⟩
        exact ⟨l, _, _, _, rfl, rfl, rfl, by have := mg1_len c f y; simp only [List.length_cons] at hlen; omega, by rw [← hfold]; rfl⟩
    · obtain ⟨l, f, u, v, e, rfl, rfl, hlen, hfold⟩ := h
      cases l with
      | cons y l => simp at e
      | nil =>
        refine ⟨trivial, ?_⟩
        simp only [z_ret, z_var, z_get0, z_get1, ok1_some]
        refine endF_fix put_same ?_
        rw [del_put hp, show f = shutL a b c ps from hfold]
        exact q
end K69

namespace K69
open PySem PySem.Spec PyProof.Rows L2 DL
def covB (f : List Pr) (t : Int) : Bool := f.any fun p => decide (p.1 ≤ t) && decide (t < p.2)
theorem covB_iff {f : List Pr} {t : Int} : covB f t = true ↔ cov f t := by
  unfold covB cov
  simp [List.any_eq_true]
/-- begin <= t < end for each -/
theorem comp_cov {p : Addr} {M : Mp} {τ : Sd} {ok : Mp → Prop} (hok : ok (put M p .priv)) {i j k : Nat} {t : Int} {K : List D → Mp → Prop} (hp : M p = none) (l : List Pr) (ht : ∀ x y : D, getV (setV (setV τ i (some x)) j (some y)) k = some (.int t)) (hi : ∀ x y : D, getV (setV (setV τ i (some x)) j (some y)) i = some x) (hj : ∀ x y : D, getV (setV (setV τ i (some x)) j (some y)) j = some y)
    (q : K (l.map fun r => D.bl (decide (r.1 ≤ t) && decide (t < r.2))) (put M p .priv)) : compT ok (gTup 2 (gCons (gVar i) (gCons (gVar j) gNil))) tYesD (dChain fLeD fLtD (dVar i) (dVar k) (dVar j)) p τ K (l.map dP) [] (put M p .priv) := by
  refine comp_map (monoG_tup (monoG_cons monoG_var (monoG_cons monoG_var monoG_nil))) (mono_chain mono_var mono_var mono_var) (fun d => match d with | .tup [.int x, .int y] => D.bl (decide (x ≤ t) && decide (t < y)) | d => d) hp hok _ [] (fun x hx => ?_) ?_
  · obtain ⟨r, _, rfl⟩ := List.mem_map.mp hx
    simp only [dP, z_gtup, z_gcons, z_gnil, z_gvar, z_chain, z_var, hi, hj, ht, ok1_some, z_le, z_bool1, decide_eq_true_eq, z_lt]
    refine ⟨by simp, ?_⟩
    split
    · rename_i h; exact ⟨by simp [h], trivial⟩
    · rename_i h; exact ⟨by simp [h], trivial⟩
  · rw [List.nil_append, List.map_map]
    exact q
theorem any_cov {M : Mp} {l : List Pr} {t : Int} : gAny [.lst (l.map fun r => D.bl (decide (r.1 ≤ t) && decide (t < r.2)))] M = some (.bl (covB l t)) := by
  rw [z_anyL, flags_map]
  simp only [Option.bind_some, covB, List.any_map]
  rfl
theorem comp_sum {p : Addr} {M : Mp} {τ : Sd} {ok : Mp → Prop} (hok : ok (put M p .priv)) {i j : Nat} {K : List D → Mp → Prop} (hp : M p = none) (l : List Pr) (hi : ∀ x y : D, getV (setV (setV τ i (some x)) j (some y)) i = some x) (hj : ∀ x y : D, getV (setV (setV τ i (some x)) j (some y)) j = some y)
    (q : K (l.map fun r => D.int (r.2 - r.1)) (put M p .priv)) : compT ok (gTup 2 (gCons (gVar i) (gCons (gVar j) gNil))) tYesD (dOp fSub (dVar j) (dVar i)) p τ K (l.map dP) [] (put M p .priv) := by
  refine comp_map (monoG_tup (monoG_cons monoG_var (monoG_cons monoG_var monoG_nil))) (mono_op mono_var mono_var) (fun d => match d with | .tup [.int x, .int y] => D.int (y - x) | d => d) hp hok _ [] (fun x hx => ?_) ?_
  · obtain ⟨r, _, rfl⟩ := List.mem_map.mp hx
    simp only [dP, z_gtup, z_gcons, z_gnil, z_gvar, z_op, z_var, hi, hj, ok1_some, z_sub]
    exact ⟨by simp, trivial, trivial⟩
  · rw [List.nil_append, List.map_map]
    exact q
def lenSum (l : List Pr) : Int := (l.map fun r => r.2 - r.1).sum
theorem sum_P {M : Mp} {l : List Pr} : gSum [.lst (l.map fun r => D.int (r.2 - r.1))] M = some (.int (lenSum l)) := by
  rw [z_sumL, nums_map]; rfl
def sp_shut_times : DSp := fun ds M Q _ => ∃ a b c ps, ds = [dG a b c, dPs ps] ∧ GateOk a b c ∧ PsOk ps ∧ Q (dPs (shutL a b c ps)) M
theorem mono_shut_times : MonoP sp_shut_times := fun ds M Q Q' E E' h _ ⟨a, b, c, ps, e1, e2, e3, q⟩ => ⟨a, b, c, ps, e1, e2, e3, h _ _ q⟩
theorem len_shut_times : ∀ ds M Q E, sp_shut_times ds M Q E → ds.length = 2 := fun ds M Q E ⟨a, b, c, ps, e1, _⟩ => by rw [e1]; rfl
theorem rd_shut_times : ∀ ds M Q E, sp_shut_times ds M Q E → t_shut_times sp_check_gate sp_raw_shut (endF Q E) (startD ["gate", "passages"] ds) M := by
  rintro ds M Q E ⟨a, b, c, ps, rfl, hg, hp, q⟩
  simp only [t_shut_times, startD, List.map_cons, List.map_nil, List.length_cons, List.length_nil, List.replicate, Nat.reduceSub, Nat.zero_add, Nat.reduceAdd, List.cons_append, List.nil_append, z_seq, z_drop, z_call, z_cons, z_nil, z_var, z_get0, z_get1, ok1_some, z_ret, z_fn]
  refine ⟨a, b, c, ps, rfl, hg, hp, a, b, c, ps, rfl, by have := hp.1.2; omega, ?_⟩
  simp only [z_tupL, ok1_some]
  exact endF_rt q
def sp_is_shut : DSp := fun ds M Q _ => ∃ a b c ps t, ds = [dG a b c, dPs ps, .int t] ∧ GateOk a b c ∧ PsOk ps ∧ 0 ≤ t ∧ t ≤ 1000000 ∧ Q (.bl (covB (shutL a b c ps) t)) M
theorem mono_is_shut : MonoP sp_is_shut := fun ds M Q Q' E E' h _ ⟨a, b, c, ps, t, e1, e2, e3, e4, e5, q⟩ => ⟨a, b, c, ps, t, e1, e2, e3, e4, e5, h _ _ q⟩
theorem len_is_shut : ∀ ds M Q E, sp_is_shut ds M Q E → ds.length = 3 := fun ds M Q E ⟨a, b, c, ps, t, e1, _⟩ => by rw [e1]; rfl
theorem rd_is_shut : ∀ ds M Q E, sp_is_shut ds M Q E → t_is_shut sp_check_gate sp_raw_shut sp_check_time (endF Q E) (startD ["gate", "passages", "time", "begin", "end"] ds) M := by
  rintro ds M Q E ⟨a, b, c, ps, t, rfl, hg, hp, t0, t1, q⟩
  simp only [t_is_shut, startD, List.map_cons, List.map_nil, List.length_cons, List.length_nil, List.replicate, Nat.reduceSub, Nat.zero_add, Nat.reduceAdd, List.cons_append, List.nil_append, z_seq, z_drop, z_call, z_cons, z_nil, z_var, z_get0, z_get1, ok1_some, z_ret, z_fn, z_comp, z_iseq]
  refine ⟨a, b, c, ps, rfl, hg, hp, t, rfl, t0, t1, a, b, c, ps, rfl, by have := hp.1.2; omega, ?_⟩
  simp only [z_itL, ok1_some]
  intro p hM
  refine comp_cov (t := t) trivial hM _ (fun x y => rfl) (fun x y => rfl) (fun x y => rfl) ?_
  rw [del_put hM, any_cov]
  exact endF_rt q
def sp_shut_many : DSp := fun ds M Q _ => ∃ a b c ps, ds = [dG a b c, dPs ps] ∧ GateOk a b c ∧ PsOk ps ∧ Q (.tup [.int ((shutL a b c ps).length : Int), .int (lenSum (shutL a b c ps))]) M
theorem mono_shut_many : MonoP sp_shut_many := fun ds M Q Q' E E' h _ ⟨a, b, c, ps, e1, e2, e3, q⟩ => ⟨a, b, c, ps, e1, e2, e3, h _ _ q⟩
theorem len_shut_many : ∀ ds M Q E, sp_shut_many ds M Q E → ds.length = 2 := fun ds M Q E ⟨a, b, c, ps, e1, _⟩ => by rw [e1]; rfl
theorem rd_shut_many : ∀ ds M Q E, sp_shut_many ds M Q E → t_shut_many sp_check_gate sp_raw_shut (endF Q E) (startD ["gate", "passages", "rows", "begin", "end"] ds) M := by
  rintro ds M Q E ⟨a, b, c, ps, rfl, hg, hp, q⟩
  simp only [t_shut_many, startD, List.map_cons, List.map_nil, List.length_cons, List.length_nil, List.replicate, Nat.reduceSub, Nat.zero_add, Nat.reduceAdd, List.cons_append, List.nil_append, z_seq, z_asg, z_drop, z_call, z_cons, z_nil, z_var, z_get0, z_get1, ok1_some, z_ret, z_fn, z_comp, z_iseq, z_tup, z_gvar, z_set0, z_set1]
  refine ⟨a, b, c, ps, rfl, hg, hp, a, b, c, ps, rfl, by have := hp.1.2; omega, ?_⟩
  simp only [z_lenL, ok1_some, z_itL, List.length_map]
  intro p hM
  refine comp_sum trivial hM _ (fun x y => rfl) (fun x y => rfl) ?_
  rw [del_put hM, sum_P]
  exact ⟨by decide, endF_rt q⟩
/-! the law's own -/
theorem rd__law_shut : ∀ ds M Q E, sp_raw_shut ds M Q E → t__law_shut (endF Q E) (startD ["gate", "passages", "lead", "lag", "gap_here", "found", "begin", "end"] ds) M := rd_raw_shut
def spS : Nat → DSp
  | 0 => botP
  | n + 1 => fun ds M Q _ => ∃ d, ds = [d, d] ∧ nst n d = true ∧ Q (.bl true) M
theorem mono_same : ∀ n, MonoP (spS n)
  | 0 => fun _ _ _ _ _ _ _ _ q => q
  | n + 1 => fun ds M Q Q' E E' h _ ⟨d, e1, e2, q⟩ => ⟨d, e1, e2, h _ _ q⟩
theorem len_same : ∀ n, ∀ ds M Q E, spS n ds M Q E → ds.length = 2
  | 0 => fun _ _ _ _ q => q.elim
  | n + 1 => fun ds M Q E ⟨d, e1, _⟩ => by rw [e1]; rfl
theorem pairs_same : ∀ {l : List D} {d : D}, d ∈ pairs l l → ∃ x ∈ l, d = .tup [x, x]
  | [], _, h => by simp [pairs] at h
  | x :: r, d, h => by
    simp only [pairs, List.mem_cons] at h
    rcases h with rfl | h
    · exact ⟨x, List.mem_cons_self, rfl⟩
    · obtain ⟨y, hy, e⟩ := pairs_same h
      exact ⟨y, List.mem_cons_of_mem _ hy, e⟩
theorem nsts_mem {n : Nat} : ∀ {xs : List D} {x : D}, nsts n xs = true → x ∈ xs → nst n x = true
  | [], _, _, h => nomatch h
  | y :: r, x, h, hx => by
    simp only [nsts, Bool.and_eq_true] at h
    rcases List.mem_cons.mp hx with rfl | hx
    · exact h.1
    · exact nsts_mem h.2 hx
theorem comp_same {n : Nat} {p : Addr} {M : Mp} {ok : Mp → Prop} {x y : Option D} {K : List D → Mp → Prop} (hp : M p = none) (hok : ok (put M p .priv)) (xs : List D) (h : nsts n xs = true) (q : K ((pairs xs xs).map fun _ => D.bl true) (put M p .priv)) :
    compT ok (gTup 2 (gCons (gVar 2) (gCons (gVar 3) gNil))) tYesD (dCall (spS (n + 1)) (dCons (dVar 2) (dCons (dVar 3) dNil))) p [x, y, none, none] K (pairs xs xs) [] (put M p .priv) := by
  refine comp_map (monoG_tup (monoG_cons monoG_var (monoG_cons monoG_var monoG_nil))) (mono_call (mono_same _) (mono_cons mono_var (mono_cons mono_var mono_nil))) (fun _ => D.bl true) hp hok _ [] (fun d hd => ?_) (by rw [List.nil_append]; exact q)
  obtain ⟨z, hz, rfl⟩ := pairs_same hd
  simp only [z_gtup, z_gcons, z_gnil, z_gvar, z_set0, z_set1, z_call, z_cons, z_nil, z_var, z_get0, z_get1, ok1_some]
  exact ⟨by simp, z, rfl, nsts_mem h hz, rfl, rfl⟩
theorem z_eqN {M : Mp} : fEq .non .non M = some (.bl true) := by
  simp only [fEq, deref, shp, and_self, if_true, deq]
theorem rd__law_same (n : Nat) : ∀ ds M Q E, spS (n + 1) ds M Q E → t__law_same (spS n) (endF Q E) (startD ["one", "due", "a", "b"] ds) M := by
  rintro ds M Q E ⟨d, rfl, hd, q⟩
  simp only [t__law_same, startD, List.map_cons, List.map_nil, List.length_cons, List.length_nil, List.replicate, Nat.reduceSub, Nat.zero_add, Nat.reduceAdd, List.cons_append, List.nil_append]
  have seqs : ∀ (xs : List D) (d : D), (d = .tup xs ∨ d = .lst xs) → nst n d = true → nsts (n - 1) xs = true ∧ n = n - 1 + 1 := fun xs d h1 h2 => by
    cases n with
    | zero => rcases h1 with rfl | rfl <;> simp [nst] at h2
    | succ m => rcases h1 with rfl | rfl <;> simp only [nst] at h2 <;> exact ⟨h2, rfl⟩
  cases d with
  | non => simp [z_eqN]; exact endF_rt q
  | bl b => simp; exact endF_rt q
  | int i => simp; exact endF_rt q
  | tup xs =>
    obtain ⟨h1, h2⟩ := seqs xs _ (.inl rfl) hd
    simp
    intro p hp
    rw [h2]
    refine comp_same hp (by simp) xs h1 ?_
    rw [del_put hp, List.map_const', flags_true]
    simp
    exact endF_rt q
  | lst xs =>
    obtain ⟨h1, h2⟩ := seqs xs _ (.inr rfl) hd
    simp
    intro p hp
    rw [h2]
    refine comp_same hp (by simp) xs h1 ?_
    rw [del_put hp, List.map_const', flags_true]
    simp
    exact endF_rt q
  | _ => cases n <;> simp [nst] at hd
end K69

namespace K69
open PySem PySem.Spec PyProof.Rows L2 DL
theorem put_mid {M : Mp} {h p : Addr} {x x' y : OD} (e : h ≠ p) : put (put (put M h x) p y) h x' = put (put M h x') p y := by
  rw [put_comm (M := put M h x) (Ne.symm e), put_put]
theorem endF_sub {Q : DK} {E : DX} {d : D} {M N : Mp} (h : Sub N M) (q : Q d N) : (endF Q E).rt d M := ⟨d, N, Cv.sub h, q⟩
/-- a draw, told as the walk asks for it -/
theorem draw {h : Addr} {l : List D} {n : Int} {M : Mp} {Q : DK} {E : DX} (hM : M h = some (.lst l)) (hl : HandOk l) (h0 : 0 < n) (h1 : n < 1073741824) (q : ∀ v l', 0 ≤ v → v < n → HandOk l' → Q (.int v) (put M h (.lst l'))) : sp__law_draw [.ref h, .int n] M Q E := ⟨h, l, n, rfl, hM, hl, h0, h1, q⟩
theorem anyOf {h : Addr} {l xs : List D} {M : Mp} {Q : DK} {E : DX} (hM : M h = some (.lst l)) (hl : HandOk l) (h0 : xs ≠ []) (h1 : xs.length < 1000000) (q : ∀ d l', d ∈ xs → HandOk l' → Q d (put M h (.lst l'))) : sp__law_any [.ref h, .lst xs] M Q E := ⟨h, l, xs, rfl, hM, hl, h0, h1, q⟩
def Ps99 (ps : List Pr) : Prop := (1 ≤ ps.length ∧ ps.length ≤ 10) ∧ (∀ p ∈ ps, 0 ≤ p.1 ∧ p.1 < p.2 ∧ p.2 ≤ 99) ∧ ps.Pairwise ltP
def sp__law_passages : DSp := fun ds M Q _ => ∃ h l, ds = [.ref h, .int 10] ∧ M h = some (.lst l) ∧ HandOk l ∧ ∀ ps l', Ps99 ps → HandOk l' → Q (dPs ps) (put M h (.lst l'))
theorem mono_passages : MonoP sp__law_passages := fun ds M Q Q' E E' h _ ⟨a, l, e1, e2, e3, q⟩ => ⟨a, l, e1, e2, e3, fun ps l' h1 h2 => h _ _ (q ps l' h1 h2)⟩
theorem len_passages : ∀ ds M Q E, sp__law_passages ds M Q E → ds.length = 2 := fun ds M Q E ⟨a, l, e1, _⟩ => by rw [e1]; rfl
def pasB : DS := (sSeq (sAsg (dCall sp__law_draw (dCons (dVar 0) (dCons (dCall sp__law_any (dCons (dVar 0) (dCons (dLst (dCons (dC (.int 30)) (dCons (dC (.int 90)) dNil))) dNil))) dNil))) (gVar 4)) (sDrop (dMeth tyLst rApp (dVar 2) (dCons (dTup (dCons (dVar 4) (dCons (dOp fAdd (dOp fAdd (dVar 4) (dC (.int 1))) (dCall sp__law_draw (dCons (dVar 0) (dCons (dC (.int 9)) dNil)))) dNil))) dNil))))
theorem mono_pasB : MonoS pasB :=
  monoS_seq (monoS_asg (mono_call mono_draw (mono_cons mono_var (mono_cons (mono_call mono_any (mono_cons mono_var (mono_cons (mono_lst (mono_cons mono_c (mono_cons mono_c mono_nil))) mono_nil))) mono_nil))) monoG_var)
    (monoS_drop (mono_meth mono_var (mono_cons (mono_tup (mono_cons mono_var (mono_cons (mono_op (mono_op mono_var mono_c) (mono_call mono_draw (mono_cons mono_var (mono_cons mono_c mono_nil)))) mono_nil))) mono_nil) mono_app))
theorem pas_turn {En : DEnds} {h p : Addr} {g s : D} {u : Option D} {l : List D} {f : List Pr} {M M0 : Mp} (hM : M = put (put M0 h (.lst l)) p (.lst (f.map dP))) (ne : h ≠ p) (hl : HandOk l) (hf : f.length < 100)
    (q : ∀ x l' u', 0 ≤ x.1 → x.1 < x.2 → x.2 ≤ 99 → HandOk l' → En.nx [some (.ref h), some g, some (.ref p), some s, u'] (put (put M0 h (.lst l')) p (.lst ((f ++ [x]).map dP)))) :
    pasB En [some (.ref h), some g, some (.ref p), some s, u] M := by
  have hh : M h = some (.lst l) := by rw [hM, put_ne ne, put_same]
  have sz2 : (0 + 1 + 1 : Nat) ≤ sizeLine := by decide
  unfold pasB
  simp only [z_seq, z_asg, z_call, z_cons, z_nil, z_var, z_get0, z_get1, ok1_some, z_lst, z_c, List.length_cons, List.length_nil]
  refine ⟨sz2, anyOf hh hl (by simp) (by show (2 : Nat) < 1000000; decide) fun d l1 hd hl1 => ?_⟩
  have nxt : ∀ m : Int, 0 < m → m ≤ 90 → sp__law_draw [.ref h, .int m] (put M h (.lst l1)) (fun d M1 => gVar 4 d [some (.ref h), some g, some (.ref p), some s, u] M1 (sDrop (dMeth tyLst rApp (dVar 2) (dCons (dTup (dCons (dVar 4) (dCons (dOp fAdd (dOp fAdd (dVar 4) (dC (.int 1))) (dCall sp__law_draw (dCons (dVar 0) (dCons (dC (.int 9)) dNil)))) dNil))) dNil)) En)) (fun c fs M1 => En.ex c fs [some (.ref h), some g, some (.ref p), some s, u] M1) := fun m m0 m1 =>
    draw put_same hl1 m0 (by omega) fun b l2 b0 b1 hl2 => by
      have e2 : put (put M h (.lst l1)) h (.lst l2) = put (put M0 h (.lst l2)) p (.lst (f.map dP)) := by rw [put_put, hM, put_mid ne]
      rw [e2]
      have hp2 : (put (put M0 h (.lst l2)) p (.lst (f.map dP))) p = some (.lst (f.map dP)) := put_same
      have hh2 : (put (put M0 h (.lst l2)) p (.lst (f.map dP))) h = some (.lst l2) := by rw [put_ne ne, put_same]
      simp only [z_gvar, z_set0, z_set1, z_drop, z_meth, z_var, z_get0, z_get1, ok1_some, z_cons, z_nil, z_tup, z_op, z_c, z_add, z_call, List.length_cons, List.length_nil]
      refine ⟨tyLst_of hp2, draw hh2 hl2 (by decide) (by decide) fun e l3 e0 e1 hl3 => ?_⟩
      rw [put_mid ne]
      have hp3 : (put (put M0 h (.lst l3)) p (.lst (f.map dP))) p = some (.lst (f.map dP)) := put_same
      simp only [z_add, ok1_some, z_app, hp3, List.length_map]
      refine ⟨sz2, Nat.lt_trans hf (by decide), ?_⟩
      rw [put_put]
      have := q (b, b + 1 + e) l3 (some (.int b)) b0 (by dsimp only; omega) (by dsimp only; omega) hl3
      rw [List.map_append] at this
      exact this
  simp only [List.mem_cons, List.not_mem_nil, or_false] at hd
  rcases hd with rfl | rfl
  · exact nxt 30 (by decide) (by decide)
  · exact nxt 90 (by decide) (by decide)
theorem tupI_P (a b : Int) : tupI [a, b] = dP (a, b) := rfl
def prOf (k : List Int) : Pr := (k.getD 0 0, k.getD 1 0)
theorem sort_set (f L : List Pr) : True := trivial
theorem rd__law_passages : ∀ ds M Q E, sp__law_passages ds M Q E → t__law_passages sp__law_draw sp__law_any (endF Q E) (startD ["hand", "most", "found", "step", "begin"] ds) M := by
  rintro ds M Q E ⟨h, l, rfl, hM, hl, q⟩
  show (sSeq (sAsg (dLstM dNil) (gVar 2)) (sSeq (sFor (iRange1 (dCons (dOp fAdd (dC (.int 1)) (dCall sp__law_draw (dCons (dVar 0) (dCons (dVar 1) dNil)))) dNil)) (gVar 3) pasB) (sRet (dFn gTuple (dCons (dSortedSet 1000000 (dVar 2)) dNil))))) (endF Q E) [some (.ref h), some (.int 10), none, none, none] M
  simp only [z_seq, z_asg, z_lstM, z_nil, z_gvar, z_set0, z_set1, z_for, z_range1, z_cons, z_op, z_c, z_call, z_var, z_get0, z_get1, ok1_some, List.length_nil]
  refine ⟨by decide, fun p hp => ?_⟩
  have ne : h ≠ p := ne_fresh hM hp
  have hh : (put M p (.lst [])) h = some (.lst l) := by rw [put_ne ne]; exact hM
  refine draw hh hl (by decide) (by decide) fun v l1 v0 v1 hl1 => ?_
  have e1 : put (put M p (.lst [])) h (.lst l1) = put (put M h (.lst l1)) p (.lst []) := put_comm (Ne.symm ne)
  rw [e1]
  simp only [z_add, ok1_some]
  refine ⟨⟨by omega, by omega⟩, ?_⟩
  refine forT_inv monoG_var mono_pasB (fun rest τ M1 => ∃ (f : List Pr) (l2 : List D) (s u : Option D), τ = [some (.ref h), some (.int 10), some (.ref p), s, u] ∧ M1 = put (put M h (.lst l2)) p (.lst (f.map dP)) ∧ HandOk l2 ∧ f.length + rest.length = (1 + v).toNat ∧ ∀ x ∈ f, 0 ≤ x.1 ∧ x.1 < x.2 ∧ x.2 ≤ 99)
    (fun x post τ M1 hI => ?_) (fun τ M1 hI => ?_) _ _ _ ⟨[], l1, none, none, rfl, rfl, hl1, by simp [rangeD], by simp⟩
  · obtain ⟨f, l2, s, u, rfl, rfl, hl2, hlen, hf⟩ := hI
    refine ⟨trivial, ?_⟩
    simp only [z_gvar, z_set0, z_set1]
    refine pas_turn rfl ne hl2 (by simp only [List.length_cons] at hlen; omega) fun y l' u' y0 y1 y2 hl' => ⟨f ++ [y], l', _, _, rfl, rfl, hl', by simp only [List.length_append, List.length_cons, List.length_nil] at hlen ⊢; omega, fun z hz => ?_⟩
    rcases List.mem_append.mp hz with hz | hz
    · exact hf z hz
    · rw [List.mem_singleton.mp hz]; exact ⟨y0, y1, y2⟩
  · obtain ⟨f, l2, s, u, rfl, rfl, hl2, hlen, hf⟩ := hI
    refine ⟨trivial, ?_⟩
    have fl : f.length = (1 + v).toNat := by simpa using hlen
    simp only [z_ret, z_fn, z_cons, z_nil, dSortedSet, z_var, z_get0, z_get1, ok1_some]
    rw [show itemsL (put (put M h (.lst l2)) p (.lst (f.map dP))) (.ref p) = some (f.map dP) from z_itR put_same]
    refine ⟨f.map fun x => [x.1, x.2], ?_, by rw [List.length_map]; omega, ⟨2, by decide, fun k hk => ?_⟩, fun L nd so mem => ?_⟩
    · rw [List.map_map]; rfl
    · obtain ⟨x, hx, rfl⟩ := List.mem_map.mp hk
      obtain ⟨a0, a1, a2⟩ := hf x hx
      refine ⟨rfl, fun m hm => ?_⟩
      simp only [List.mem_cons, List.not_mem_nil, or_false] at hm
      rcases hm with rfl | rfl <;> constructor <;> omega
    · have each : ∀ k ∈ L, ∃ x ∈ f, k = [x.1, x.2] := fun k hk => by
        obtain ⟨x, hx, e⟩ := List.mem_map.mp ((mem k).mp hk)
        exact ⟨x, hx, e.symm⟩
      have eL : L.map tupI = (L.map prOf).map dP := by
        rw [List.map_map]
        refine List.map_congr_left fun k hk => ?_
        obtain ⟨x, _, rfl⟩ := each k hk
        rfl
      rw [z_tupL, ok1_some]
      refine endF_sub (N := put M h (.lst l2)) (Sub.put Sub.refl (by rw [put_ne (Ne.symm ne)]; exact hp)) ?_
      rw [eL]
      refine q (L.map prOf) l2 ⟨⟨?_, ?_⟩, fun x hx => ?_, ?_⟩ hl2
      · rw [List.length_map]
        cases L with
        | nil =>
          cases f with
          | nil => simp at fl; omega
          | cons x r => exact absurd ((mem [x.1, x.2]).mpr (by simp)) (by simp)
        | cons _ _ => simp
      · rw [List.length_map]
        have sub : L.length ≤ (f.map fun x => [x.1, x.2]).length := nd.length_le_of_subset fun k hk => (mem k).mp hk
        rw [List.length_map] at sub
        omega
      · obtain ⟨k, hk, rfl⟩ := List.mem_map.mp hx
        obtain ⟨y, hy, rfl⟩ := each k hk
        exact hf y hy
      · refine List.pairwise_map.mpr ((nd.and so).imp_of_mem fun {k k'} hk hk' ⟨n1, n2⟩ => ?_)
        obtain ⟨x, hx, rfl⟩ := each k hk
        obtain ⟨y, hy, rfl⟩ := each k' hk'
        obtain ⟨a0, a1, a2⟩ := hf x hx
        obtain ⟨b0, b1, b2⟩ := hf y hy
        simp only [TS.code, List.length_cons, List.length_nil] at n2
        show x.1 < y.1 ∨ x.1 = y.1 ∧ x.2 < y.2
        by_cases e : x.1 = y.1 ∧ x.2 = y.2
        · exact absurd (by rw [e.1, e.2]) n1
        · simp at n2
          omega
end K69

namespace K69
open PySem PySem.Spec PyProof.Rows L2 DL
def sp__law_is_right : DSp := fun ds M Q _ => ∃ h l a b c ps, ds = [.ref h, dG a b c, dPs ps] ∧ M h = some (.lst l) ∧ HandOk l ∧ (0 ≤ a ∧ a < 20) ∧ (0 ≤ b ∧ b < 20) ∧ (0 ≤ c ∧ c < 12) ∧ Ps99 ps ∧ ∀ l', HandOk l' → Q (.bl true) (put M h (.lst l'))
theorem mono_right : MonoP sp__law_is_right := fun ds M Q Q' E E' h _ ⟨a, l, n, m, k, ps, e1, e2, e3, e4, e5, e6, e7, q⟩ => ⟨a, l, n, m, k, ps, e1, e2, e3, e4, e5, e6, e7, fun l' h1 => h _ _ (q l' h1)⟩
theorem len_right : ∀ ds M Q E, sp__law_is_right ds M Q E → ds.length = 3 := fun ds M Q E ⟨a, l, n, m, k, ps, e1, _⟩ => by rw [e1]; rfl
abbrev sS : DSp := spS 6
theorem Ps99.ok {ps : List Pr} (h : Ps99 ps) : PsOk ps := ⟨⟨h.1.1, by have := h.1.2; omega⟩, fun p hp => ⟨(h.2.1 p hp).1, (h.2.1 p hp).2.1, by have := (h.2.1 p hp).2.2; omega⟩, h.2.2⟩
theorem Ps99.okp {ps : List Pr} (h : Ps99 ps) : ∀ p ∈ ps, Okp 1000 p := fun p hp => ⟨(h.2.1 p hp).1, (h.2.1 p hp).2.1, by have := (h.2.1 p hp).2.2; omega⟩
theorem nst_P {n : Nat} (p : Pr) : nst (n + 1) (dP p) = true := by simp [dP, nst, nsts]
theorem nst_Ps {n : Nat} (l : List Pr) : nst (n + 2) (dPs l) = true := by
  simp only [dPs, nst]
  exact nsts_of _ fun x hx => by obtain ⟨p, _, rfl⟩ := List.mem_map.mp hx; exact nst_P p
theorem repr_gp {M : Mp} {a b c : Int} {ps : List Pr} (ha : 0 ≤ a ∧ a < 20) (hb : 0 ≤ b ∧ b < 20) (hc : 0 ≤ c ∧ c < 12) (hp : Ps99 ps) : gRepr [.lst [dG a b c, dPs ps]] M = some (.str (pyT (.lst [dG a b c, dPs ps])).shown) := by
  have sm : ∀ x : Int, 0 ≤ x → x < 100 → x.natAbs < 10 ^ 40 := fun x h1 h2 => Nat.lt_trans (show x.natAbs < 100 by omega) (by decide +kernel)
  have sP : ∀ p ∈ ps, sml (dP p) = true ∧ wd (dP p) ≤ 100 := fun p h => by
    obtain ⟨h0, h1, h2⟩ := hp.2.1 p h
    have s1 := sm p.1 h0 (by omega)
    have s2 := sm p.2 (by omega) (by omega)
    have w1 := wd_int s1
    have w2 := wd_int s2
    refine ⟨by simp only [dP, sml, smls, decide_eq_true s1, decide_eq_true s2, Bool.and_self], ?_⟩
    simp only [dP, wd, wds] at w1 w2 ⊢
    omega
  have s1 := sm a ha.1 (by omega)
  have s2 := sm b hb.1 (by omega)
  have s3 := sm c hc.1 (by omega)
  have w1 := wd_int s1
  have w2 := wd_int s2
  have w3 := wd_int s3
  have wp : wds (ps.map dP) ≤ 102 * (ps.map dP).length := wds_le _ fun x hx => by
    obtain ⟨p, h, rfl⟩ := List.mem_map.mp hx; exact (sP p h).2
  rw [List.length_map] at wp
  have hl := hp.1.2
  refine (repr_ok (n := 3) (by decide) ?_ ?_ ?_).1
  · simp only [nsts, Bool.and_eq_true]
    exact ⟨by simp [dG, nst, nsts], nst_Ps _, trivial⟩
  · simp only [smls, sml, dG, dPs, decide_eq_true s1, decide_eq_true s2, decide_eq_true s3, Bool.and_self, Bool.true_and, Bool.and_true]
    exact smls_of _ fun x hx => by obtain ⟨p, h, rfl⟩ := List.mem_map.mp hx; exact (sP p h).1
  · simp only [wd] at w1 w2 w3
    simp only [wds, wd, dG, dPs]
    omega
theorem pairs_adj : ∀ {m : Int} {l : List Pr} {d : D}, adj m l → d ∈ pairs (l.map dP) ((l.map dP).drop 1) → ∃ p q, d = .tup [dP p, dP q] ∧ m ≤ q.1 - p.2
  | _, [], _, _, h => by simp [pairs] at h
  | _, [x], _, _, h => by simp [pairs] at h
  | m, x :: y :: r, d, hp, h => by
    simp only [List.map_cons, List.drop_succ_cons, List.drop_zero, pairs, List.mem_cons] at h
    rcases h with rfl | h
    · exact ⟨x, y, rfl, hp.1⟩
    · refine pairs_adj (l := y :: r) hp.2 ?_
      simpa using h
theorem flags_false {α : Type} (l : List α) {M : Mp} : gAny [.lst (l.map fun _ => D.bl false)] M = some (.bl false) := by
  rw [z_anyL, show (l.map fun _ => D.bl false) = l.map fun x => D.bl ((fun _ => false) x) from rfl, flags_map]
  simp
/-- one time asked -/
def timB (sp_is_shut sp__law_same : DSp) : DS := (sSeq (sAsg (dFn gAny (dCons (dComp (iSeq (dVar 3)) (gTup 2 (gCons (gVar 9) (gCons (gVar 10) gNil))) tYesD (dChain fLeD fLtD (dVar 9) (dVar 7) (dVar 10)) [9, 10]) dNil)) (gVar 8)) (sIf (tOr (tNot (tOf (dCall sp__law_same (dCons (dCall sp_is_shut (dCons (dVar 1) (dCons (dVar 2) (dCons (dVar 7) dNil)))) (dCons (dVar 8) dNil))))) (tAnd (tOf (dVar 8)) (tOf (dOp fIsNot (dCall sp_is_shut (dCons (dVar 6) (dCons (dVar 2) (dCons (dVar 7) dNil)))) (dC (.bl true)))))) (sRet (dC (.bl false))) sNext))
def pasT (sp_is_shut : DSp) : DS := (sIf (tNot (tOf (dFn gAll (dCons (dComp (iSeq (dTup (dCons (dVar 9) (dCons (dOp fSub (dVar 10) (dC (.int 1))) (dCons (dFn gMax (dCons (dC (.int 0)) (dCons (dOp fSub (dVar 9) (dOp fIx (dVar 1) (dC (.int 0)))) dNil))) dNil))))) (gVar 7) tYesD (dCall sp_is_shut (dCons (dVar 1) (dCons (dVar 2) (dCons (dVar 7) dNil)))) [7]) dNil)))) (sRet (dC (.bl false))) sNext)
theorem mono_shutc {i j k : Nat} : MonoE (dCall sp_is_shut (dCons (dVar i) (dCons (dVar j) (dCons (dVar k) dNil)))) := mono_call mono_is_shut (mono_cons mono_var (mono_cons mono_var (mono_cons mono_var mono_nil)))
theorem mono_timB : MonoS (timB sp_is_shut sS) :=
  monoS_seq (monoS_asg (mono_fn (mono_cons (mono_comp (monoI_seq mono_var) (monoG_tup (monoG_cons monoG_var (monoG_cons monoG_var monoG_nil))) (fun τ M Q Q' E E' h _ q => h _ _ q) (mono_chain mono_var mono_var mono_var)) mono_nil)) monoG_var)
    (monoS_if (mono_or (mono_not (mono_tOf (mono_call (mono_same _) (mono_cons mono_shutc (mono_cons mono_var mono_nil))))) (mono_and (mono_tOf mono_var) (mono_tOf (mono_op mono_shutc mono_c)))) (monoS_ret mono_c) monoS_next)
theorem mono_pasT : MonoS (pasT sp_is_shut) :=
  monoS_if (mono_not (mono_tOf (mono_fn (mono_cons (mono_comp (monoI_seq (mono_tup (mono_cons mono_var (mono_cons (mono_op mono_var mono_c) (mono_cons (mono_fn (mono_cons mono_c (mono_cons (mono_op mono_var (mono_op mono_var mono_c)) mono_nil))) mono_nil))))) monoG_var (fun τ M Q Q' E E' h _ q => h _ _ q) mono_shutc) mono_nil)))) (monoS_ret mono_c) monoS_next
section
variable {En : DEnds} {M : Mp} {h before heard one lap : D} {o11 o12 o13 o14 u7 u8 u9 u10 : Option D} {a b c a' b' c' t : Int} {ps : List Pr}
theorem tim_turn {O : List Pr} (eO : shutL a b c ps = O) (ga : GateOk a b c) (ga' : GateOk a' b' c') (hp : PsOk ps) (t0 : 0 ≤ t) (t1 : t ≤ 1000000) (wide : covB (shutL a b c ps) t = true → covB (shutL a' b' c' ps) t = true)
    (q : En.nx [some h, some (dG a b c), some (dPs ps), some (.lst ((O).map dP)), some before, some heard, some (dG a' b' c'), some (.int t), some (.bl (covB (shutL a b c ps) t)), u9, u10, o11, o12, o13, o14] M) :
    timB sp_is_shut sS En [some h, some (dG a b c), some (dPs ps), some (.lst ((O).map dP)), some before, some heard, some (dG a' b' c'), some (.int t), u8, u9, u10, o11, o12, o13, o14] M := by
  subst eO
  unfold timB
  simp only [z_seq, z_asg, z_fn, z_cons, z_nil, z_comp, z_iseq, z_var, z_get0, z_get1, ok1_some, z_itL]
  intro p hM
  refine comp_cov (t := t) trivial hM _ (fun x y => rfl) (fun x y => rfl) (fun x y => rfl) ?_
  rw [del_put hM, any_cov]
  simp only [ok1_some, z_gvar, z_set0, z_set1, z_if, z_tor, z_tnot, z_tand, z_tOf, z_call, z_cons, z_nil, z_var, z_get0, z_get1]
  refine ⟨a, b, c, ps, t, rfl, ga, hp, t0, t1, .bl _, rfl, by simp [nst], ?_⟩
  simp only [z_bool1, ok1_some, Bool.not_true, Bool.false_eq_true, if_false]
  cases hc : covB (shutL a b c ps) t with
  | false =>
    simp only [Bool.false_eq_true, if_false, z_next]
    rw [hc] at q; exact q
  | true =>
    simp only [if_true, z_op, z_call, z_cons, z_nil, z_var, z_get0, z_get1, ok1_some, z_c]
    refine ⟨a', b', c', ps, t, rfl, ga', hp, t0, t1, ?_⟩
    rw [wide hc]
    simp only [z_isNotB, ok1_some, z_bool1, decide_true, Bool.not_true, Bool.false_eq_true, if_false, z_next]
    rw [hc] at q; exact q
theorem pas_ask {x y : Int} (ga : GateOk a b c) (hp : PsOk ps) (x0 : 0 ≤ x) (y1 : y ≤ 1000) (xy : x < y) (own : ∀ t, (if x - a > 0 then x - a else 0) ≤ t → t < y → covB (shutL a b c ps) t = true)
    (q : En.nx [some h, some (dG a b c), some (dPs ps), u7, some before, some heard, o11, u8, o12, some (.int x), some (.int y), o13, o14, u9, u10] M) :
    pasT sp_is_shut En [some h, some (dG a b c), some (dPs ps), u7, some before, some heard, o11, u8, o12, some (.int x), some (.int y), o13, o14, u9, u10] M := by
  obtain ⟨⟨a0, a1⟩, _⟩ := id ga
  have ixa : fIx (dG a b c) (.int 0) M = some (.int a) := by simp [dG]
  unfold pasT
  simp only [z_if, z_tnot, z_tOf, z_fn, z_cons, z_nil, z_comp, z_iseq, z_tup, z_var, z_get0, z_get1, ok1_some, z_op, z_c, z_sub, ixa, z_max2, z_itT, List.length_cons, List.length_nil]
  refine ⟨by decide, fun p hM => ?_⟩
  have ask : ∀ (t : Int) (M1 : Mp) (K : D → Mp → Prop) (E : DX), (if x - a > 0 then x - a else 0) ≤ t → t < y → 0 ≤ t → K (.bl true) M1 → sp_is_shut [dG a b c, dPs ps, .int t] M1 K E := fun t M1 K E h1 h2 h3 k =>
    ⟨a, b, c, ps, t, rfl, ga, hp, h3, by omega, by rw [own t h1 h2]; exact k⟩
  simp only [z_comp1, z_comp0, z_okT, put_same, z_gvar, z_wipe1, z_wipe0, z_set0, z_set1, z_yes, if_true, z_call, z_cons, z_nil, z_var, z_get0, z_get1, ok1_some, true_and, List.nil_append, List.cons_append, del_put hM]
  refine ask _ _ _ _ (by split <;> omega) xy x0 ⟨put_same, ask _ _ _ _ (by split <;> omega) (by omega) (by omega) ⟨put_same, ask _ _ _ _ (Int.le_refl _) (by split <;> omega) (by split <;> omega) ⟨put_same, ?_⟩⟩⟩
  rw [del_put hM]
  simp only [z_allL, z_fl1, z_fl0, Option.map_some, Option.bind_some, List.all_cons, List.all_nil, Bool.and_self, ok1_some, z_bool1, Bool.not_true, Bool.false_eq_true, if_false, z_next]
  exact q
end
end K69

namespace K69
open PySem PySem.Spec PyProof.Rows L2 DL
theorem mono_yes : MonoT tYesD := fun τ M Q Q' E E' h _ q => h _ _ q
theorem mono_ring {i : Nat} {n : Int} : MonoE (dCall sp__law_draw (dCons (dVar i) (dCons (dC (.int n)) dNil))) := mono_call mono_draw (mono_cons mono_var (mono_cons mono_c mono_nil))
/-- the end of the def, part by part -/
def isr3 : DS := sSeq (sFor (iSeq (dVar 2)) (gTup 2 (gCons (gVar 9) (gCons (gVar 10) gNil))) (pasT sp_is_shut)) (sRet (dOp fEq (dFn gRepr (dCons (dLst (dCons (dVar 1) (dCons (dVar 2) dNil))) dNil)) (dVar 4)))
def isr2 : DS := sSeq (sFor (iSeq (dOp fAdd (dLst (dCons (dC (.int 0)) (dCons (dOp fIx (dOp fIx (dVar 3) (dC (.int 0))) (dC (.int 0))) (dCons (dOp fIx (dOp fIx (dVar 3) (dC (.int 0))) (dC (.int 1))) (dCons (dOp fSub (dOp fIx (dOp fIx (dVar 3) (dNeg (dC (.int 1)))) (dC (.int 1))) (dC (.int 1))) (dCons (dOp fIx (dOp fIx (dVar 3) (dNeg (dC (.int 1)))) (dC (.int 1))) dNil)))))) (dComp (iRange1 (dCons (dC (.int 8)) dNil)) (gVar 14) tYesD (dCall sp__law_draw (dCons (dVar 0) (dCons (dC (.int 140)) dNil))) [14]))) (gVar 7) (timB sp_is_shut sS)) isr3
def isr1 : DS := sSeq (sAsg (dFn gTuple (dCons (dComp (iSeq (dVar 1)) (gVar 13) tYesD (dOp fAdd (dVar 13) (dCall sp__law_draw (dCons (dVar 0) (dCons (dC (.int 4)) dNil)))) [13]) dNil)) (gVar 6)) isr2
def isr0 : DS := sSeq (sIf (tOf (dFn gAny (dCons (dComp (iZip (dCons (dVar 3) (dCons (dPart (dVar 3) (oSome (dC (.int 1))) oNone) dNil))) (gTup 2 (gCons (gVar 11) (gCons (gVar 12) gNil))) tYesD (dOp fLtD (dOp fSub (dOp fIx (dVar 12) (dC (.int 0))) (dOp fIx (dVar 11) (dC (.int 1)))) (dFn gMax (dCons (dC (.int 1)) (dCons (dOp fIx (dVar 1) (dC (.int 2))) dNil)))) [11, 12]) dNil))) (sRet (dC (.bl false))) sNext) isr1
def isrA : DS := sSeq (sAsg (dCall sp_shut_times (dCons (dVar 1) (dCons (dVar 2) dNil))) (gVar 5)) (sSeq (sIf (tNot (tOf (dCall sS (dCons (dLst (dCons (dVar 5) (dCons (dCall sp_shut_many (dCons (dVar 1) (dCons (dVar 2) dNil))) dNil))) (dCons (dLst (dCons (dFn gTuple (dCons (dVar 3) dNil)) (dCons (dTup (dCons (dFn gLen (dCons (dVar 3) dNil)) (dCons (dFn gSum (dCons (dComp (iSeq (dVar 3)) (gTup 2 (gCons (gVar 9) (gCons (gVar 10) gNil))) tYesD (dOp fSub (dVar 10) (dVar 9)) [9, 10]) dNil)) dNil))) dNil))) dNil))))) (sRet (dC (.bl false))) sNext) isr0)
section
variable {En : DEnds} {M : Mp} {h : Addr} {a b c a' b' c' : Int} {ps O : List Pr} {x0 la : Pr} {u7 u8 u9 u10 : Option D}
/-- the text of what was asked about -/
def txt (a b c : Int) (ps : List Pr) : D := .str (pyT (.lst [dG a b c, dPs ps])).shown
theorem r3 (ga : GateOk a b c) (pok : PsOk ps) (okp : ∀ p ∈ ps, Okp 1000 p) (rep : ∀ M : Mp, gRepr [.lst [dG a b c, dPs ps]] M = some (txt a b c ps)) (eO : shutL a b c ps = O) (own : ∀ p ∈ ps, ∀ t, (if p.1 - a > 0 then p.1 - a else 0) ≤ t → t < p.2 → covB O t = true)
    (q : En.rt (.bl true) M) : isr3 En [some (.ref h), some (dG a b c), some (dPs ps), some (.lst (O.map dP)), some (txt a b c ps), some (dPs O), some (dG a' b' c'), u7, u8, u9, u10, none, none, none, none] M := by
  unfold isr3
  simp only [z_seq, z_for, z_iseq, z_var, z_get0, z_get1, ok1_some, dPs, z_itT]
  refine forT_inv (monoG_tup (monoG_cons monoG_var (monoG_cons monoG_var monoG_nil))) mono_pasT (fun rest τ M1 => ∃ (qs : List Pr) (u9 u10 : Option D), rest = qs.map dP ∧ (∀ p ∈ qs, p ∈ ps) ∧ M1 = M ∧ τ = [some (.ref h), some (dG a b c), some (dPs ps), some (.lst (O.map dP)), some (txt a b c ps), some (dPs O), some (dG a' b' c'), u7, u8, u9, u10, none, none, none, none])
    (fun x post τ M1 hI => ?_) (fun τ M1 hI => ?_) _ _ _ ⟨ps, _, _, rfl, fun p hp => hp, rfl, rfl⟩
  · obtain ⟨qs, u9, u10, e, hqs, rfl, rfl⟩ := hI
    cases qs with
    | nil => simp at e
    | cons r qs =>
      simp only [List.map_cons, List.cons.injEq] at e
      obtain ⟨rfl, rfl⟩ := e
      have hr := hqs r List.mem_cons_self
      obtain ⟨r0, r1, r2⟩ := okp r hr
      refine ⟨trivial, ?_⟩
      simp only [dP, z_gtup, z_gcons, z_gnil, z_gvar, z_set0, z_set1]
      refine ⟨rfl, ?_⟩
      refine pas_ask (x := r.1) (y := r.2) ga pok r0 r2 r1 (fun t h1 h2 => by rw [eO]; exact own r hr t h1 h2) ?_
      exact ⟨qs, _, _, rfl, fun z hz => hqs z (List.mem_cons_of_mem _ hz), rfl, rfl⟩
  · obtain ⟨qs, u9, u10, e, hqs, rfl, rfl⟩ := hI
    refine ⟨trivial, ?_⟩
    dsimp only
    simp only [z_ret, z_op, z_fn, z_cons, z_nil, z_lst, z_var, z_get0, z_get1, ok1_some, List.length_cons, List.length_nil]
    refine ⟨by decide, ?_⟩
    have := rep M1
    simp only [dPs] at this ⊢
    rw [this]
    simp only [ok1_some]
    rw [show fEq (txt a b c ps) (txt a b c ps) M1 = some (.bl true) by show some (D.bl (decide _)) = _; rw [decide_eq_true rfl]]
    exact q
theorem add_l {xs ys : List D} {M : Mp} (h : xs.length + ys.length ≤ sizeLine) : fAdd (.lst xs) (.lst ys) M = some (.lst (xs ++ ys)) := by
  show (if xs.length + ys.length ≤ sizeLine then some (D.lst (xs ++ ys)) else none) = _
  rw [if_pos h]
theorem r2 {l3 : List D} (ga : GateOk a b c) (ga' : GateOk a' b' c') (pok : PsOk ps) (okx : Okp 2000 x0) (okl : Okp 2000 la) (eO : shutL a b c ps = O) (i0 : ∀ M : Mp, fIx (.lst (O.map dP)) (.int 0) M = some (dP x0)) (i1 : ∀ M : Mp, fIx (.lst (O.map dP)) (.int (-1)) M = some (dP la))
    (wide : ∀ t, covB O t = true → covB (shutL a' b' c' ps) t = true) (hM : M h = some (.lst l3)) (hl3 : HandOk l3)
    (q : ∀ l4 u7 u8, HandOk l4 → isr3 En [some (.ref h), some (dG a b c), some (dPs ps), some (.lst (O.map dP)), some (txt a b c ps), some (dPs O), some (dG a' b' c'), u7, u8, none, none, none, none, none, none] (put M h (.lst l4))) :
    isr2 En [some (.ref h), some (dG a b c), some (dPs ps), some (.lst (O.map dP)), some (txt a b c ps), some (dPs O), some (dG a' b' c'), none, none, none, none, none, none, none, none] M := by
  unfold isr2
  simp only [z_seq, z_for, z_iseq, z_op, z_lst, z_cons, z_nil, z_c, z_var, z_get0, z_get1, ok1_some, i0, i1, ixP0, ixP1, z_neg, z_sub, z_comp, z_range1, List.length_cons, List.length_nil]
  refine ⟨by decide, ⟨by decide, by decide⟩, fun p4 hp4 => ?_⟩
  have n4 : h ≠ p4 := ne_fresh hM hp4
  refine compT_inv monoG_var mono_yes mono_ring (fun rest acc M1 => ∃ (ts : List Int) (l4 : List D), acc = ts.map D.int ∧ M1 = put (put M h (.lst l4)) p4 .priv ∧ HandOk l4 ∧ acc.length + rest.length = 8 ∧ ∀ t ∈ ts, 0 ≤ t ∧ t ≤ 1000000)
    (fun x post acc M1 hI => ?_) (fun acc M1 hI => ?_) _ [] _ ⟨[], l3, rfl, by rw [← put_self hM], hl3, ?len, by simp⟩
  case len => simp [rangeD]
  · obtain ⟨ts, l4, rfl, rfl, hl4, hlen, hts⟩ := hI
    refine ⟨trivial, put_same, ?_⟩
    simp only [z_gvar, z_wipe1, z_wipe0, z_set0, z_set1, z_yes, if_true, z_call, z_cons, z_nil, z_var, z_get0, z_get1, ok1_some, z_c]
    refine draw (by rw [put_ne n4, put_same]) hl4 (by decide) (by decide) fun v l5 v0 v1 hl5 => ⟨ts ++ [v], l5, by simp, by rw [put_mid n4], hl5, by simp only [List.length_append, List.length_cons, List.length_nil] at hlen ⊢; omega, fun t ht => ?_⟩
    rcases List.mem_append.mp ht with ht | ht
    · exact hts t ht
    · rw [List.mem_singleton.mp ht]; omega
  obtain ⟨ts, l4, rfl, rfl, hl4, hlen, hts⟩ := hI
  refine ⟨trivial, put_same, ?_⟩
  rw [del_put (by rw [put_ne (Ne.symm n4)]; exact hp4)]
  rw [add_l (by
    have : (ts.map D.int).length ≤ 8 := by omega
    simp only [List.length_cons, List.length_nil]
    exact Nat.le_trans (Nat.add_le_add_left this _) (by decide))]
  simp only [ok1_some, z_itL]
  obtain ⟨x00, x01, x02⟩ := okx
  obtain ⟨y00, y01, y02⟩ := okl
  refine forT_inv monoG_var mono_timB (fun rest τ M1 => ∃ (ts : List Int) (u7 u8 : Option D), rest = ts.map D.int ∧ (∀ t ∈ ts, 0 ≤ t ∧ t ≤ 1000000) ∧ M1 = put M h (.lst l4) ∧ τ = [some (.ref h), some (dG a b c), some (dPs ps), some (.lst (O.map dP)), some (txt a b c ps), some (dPs O), some (dG a' b' c'), u7, u8, none, none, none, none, none, none])
    (fun x post τ M1 hI => ?_) (fun τ M1 hI => ?_) _ _ _ ⟨0 :: x0.1 :: x0.2 :: (la.2 - 1) :: la.2 :: ts, _, _, rfl, fun t ht => ?_, rfl, rfl⟩
  · obtain ⟨ts, u7, u8, e, hts, rfl, rfl⟩ := hI
    cases ts with
    | nil => simp at e
    | cons t ts =>
      simp only [List.map_cons, List.cons.injEq] at e
      obtain ⟨rfl, rfl⟩ := e
      obtain ⟨t0, t1⟩ := hts t List.mem_cons_self
      refine ⟨trivial, ?_⟩
      simp only [z_gvar, z_set0, z_set1]
      refine tim_turn eO ga ga' pok t0 t1 (by rw [eO]; exact wide t) ?_
      exact ⟨ts, _, _, rfl, fun z hz => hts z (List.mem_cons_of_mem _ hz), rfl, rfl⟩
  · obtain ⟨ts, u7, u8, e, hts, rfl, rfl⟩ := hI
    exact ⟨trivial, q l4 u7 u8 hl4⟩
  · simp only [List.mem_cons] at ht
    rcases ht with rfl | rfl | rfl | rfl | rfl | ht
    · omega
    · omega
    · omega
    · omega
    · omega
    · exact hts t ht
theorem r1 {l : List D} (hM : M h = some (.lst l)) (hl : HandOk l)
    (q : ∀ v1 v2 v3 l3, (0 ≤ v1 ∧ v1 < 4) → (0 ≤ v2 ∧ v2 < 4) → (0 ≤ v3 ∧ v3 < 4) → HandOk l3 → isr2 En [some (.ref h), some (dG a b c), some (dPs ps), some (.lst (O.map dP)), some (txt a b c ps), some (dPs O), some (dG (a + v1) (b + v2) (c + v3)), none, none, none, none, none, none, none, none] (put M h (.lst l3))) :
    isr1 En [some (.ref h), some (dG a b c), some (dPs ps), some (.lst (O.map dP)), some (txt a b c ps), some (dPs O), none, none, none, none, none, none, none, none, none] M := by
  unfold isr1
  simp only [z_seq, z_asg, z_fn, z_cons, z_nil, z_comp, z_iseq, z_var, z_get0, z_get1, ok1_some, dG, z_itT]
  intro p3 hp3
  have n3 : h ≠ p3 := ne_fresh hM hp3
  have hh3 : (put M p3 .priv) h = some (.lst l) := by rw [put_ne n3]; exact hM
  simp only [z_comp1, z_comp0, z_okT, put_same, true_and, z_gvar, z_wipe1, z_wipe0, z_set0, z_set1, z_yes, if_true, z_op, z_call, z_cons, z_nil, z_var, z_get0, z_get1, ok1_some, z_c, List.nil_append, List.cons_append]
  have mid3 : ∀ l1 l2 : List D, put (put (put M p3 .priv) h (.lst l1)) h (.lst l2) = put (put M p3 .priv) h (.lst l2) := fun l1 l2 => put_put
  have same3 : ∀ l1 : List D, (put (put M p3 .priv) h (.lst l1)) p3 = some .priv := fun l1 => by rw [put_ne (Ne.symm n3), put_same]
  refine draw hh3 hl (by decide) (by decide) fun v1 l1 v10 v11 hl1 => ?_
  simp only [z_add, ok1_some]
  refine ⟨same3 _, draw put_same hl1 (by decide) (by decide) fun v2 l2 v20 v21 hl2 => ?_⟩
  rw [mid3]
  simp only [z_add, ok1_some]
  refine ⟨same3 _, draw put_same hl2 (by decide) (by decide) fun v3 l3 v30 v31 hl3 => ?_⟩
  rw [mid3]
  simp only [z_add, ok1_some]
  refine ⟨same3 _, ?_⟩
  have e3 : del (put (put M p3 .priv) h (.lst l3)) p3 = put M h (.lst l3) := by
    rw [put_comm (Ne.symm n3), del_put (by rw [put_ne (Ne.symm n3)]; exact hp3)]
  rw [e3]
  simp only [z_tupL, ok1_some, z_set0, z_set1]
  exact q v1 v2 v3 l3 ⟨v10, v11⟩ ⟨v20, v21⟩ ⟨v30, v31⟩ hl3
theorem r0 (gap : adj (if c > 1 then c else 1) O) (q : isr1 En [some (.ref h), some (dG a b c), some (dPs ps), some (.lst (O.map dP)), some (txt a b c ps), some (dPs O), none, none, none, none, none, none, none, none, none] M) :
    isr0 En [some (.ref h), some (dG a b c), some (dPs ps), some (.lst (O.map dP)), some (txt a b c ps), some (dPs O), none, none, none, none, none, none, none, none, none] M := by
  unfold isr0
  simp only [z_seq, z_if, z_tOf, z_fn, z_cons, z_nil, z_comp, z_izip, z_var, z_get0, z_get1, ok1_some, z_part, z_osome, z_onone, z_c, z_partL, z_alL, z_itL, cut1, true_and]
  intro p2 hp2
  refine comp_map (monoG_tup (monoG_cons monoG_var (monoG_cons monoG_var monoG_nil))) (mono_op (mono_op (mono_op mono_var mono_c) (mono_op mono_var mono_c)) (mono_fn (mono_cons mono_c (mono_cons (mono_op mono_var mono_c) mono_nil)))) (fun _ => .bl false) hp2 ⟨trivial, trivial⟩ _ [] (fun x hx => ?_) ?_
  · obtain ⟨u, v, rfl, huv⟩ := pairs_adj gap hx
    simp only [z_gtup, z_gcons, z_gnil, z_gvar, z_wipe1, z_wipe0, z_set0, z_set1, z_op, z_fn, z_cons, z_nil, z_var, z_get0, z_get1, ok1_some, z_c, ixP0, ixP1, z_sub, dG, z_ixT, z_at2, z_max2, z_lt]
    exact ⟨rfl, by rw [decide_eq_false (by omega)], trivial⟩
  rw [List.nil_append, del_put hp2, flags_false]
  simp only [ok1_some, z_bool1, Bool.false_eq_true, if_false, z_next]
  exact q
theorem rA (ga : GateOk a b c) (pok : PsOk ps) (eO : shutL a b c ps = O) (q : isr0 En [some (.ref h), some (dG a b c), some (dPs ps), some (.lst (O.map dP)), some (txt a b c ps), some (dPs O), none, none, none, none, none, none, none, none, none] M) :
    isrA En [some (.ref h), some (dG a b c), some (dPs ps), some (.lst (O.map dP)), some (txt a b c ps), none, none, none, none, none, none, none, none, none, none] M := by
  subst eO
  unfold isrA
  simp only [z_seq, z_asg, z_call, z_cons, z_nil, z_var, z_get0, z_get1, ok1_some, z_gvar, z_set0, z_set1]
  refine ⟨a, b, c, ps, rfl, ga, pok, ?_⟩
  simp only [z_seq, z_if, z_tnot, z_tOf, z_call, z_cons, z_nil, z_lst, z_var, z_get0, z_get1, ok1_some, z_fn, z_tupL, z_tup, z_lenL, z_comp, z_iseq, z_itL, List.length_cons, List.length_nil, List.length_map]
  refine ⟨a, b, c, ps, rfl, ga, pok, by decide, fun p hpM => ?_⟩
  refine comp_sum trivial hpM _ (fun x y => rfl) (fun x y => rfl) ?_
  rw [del_put hpM, sum_P]
  simp only [ok1_some]
  refine ⟨by decide, by decide, _, rfl, ?_, ?_⟩
  · simp only [nst, nsts, Bool.and_eq_true]
    exact ⟨nst_Ps _, by simp, trivial⟩
  simp only [z_bool1, ok1_some, Bool.not_true, Bool.false_eq_true, if_false, z_next]
  exact q
end
theorem rd__law_is_right : ∀ ds M Q E, sp__law_is_right ds M Q E → t__law_is_right sp_shut_times sp_is_shut sp_shut_many sp__law_draw sS sp_raw_shut (endF Q E) (startD ["hand", "gate", "passages", "own", "before", "heard", "wide", "time", "flag", "begin", "end", "here", "later", "one", "lap"] ds) M := by
  rintro ds M Q E ⟨h, l, a, b, c, ps, rfl, hM, hl, ⟨a0, a1⟩, ⟨b0, b1⟩, ⟨c0, c1⟩, hp, q⟩
  have ga : GateOk a b c := ⟨⟨a0, by omega⟩, ⟨b0, by omega⟩, c0, by omega⟩
  have pok := hp.ok
  have okp := hp.okp
  have hn : ps ≠ [] := fun e => by have := hp.1.1; rw [e] at this; simp at this
  have len100 : ps.length ≤ 100 := by have := hp.1.2; omega
  have rep := fun M : Mp => repr_gp (M := M) ⟨a0, a1⟩ ⟨b0, b1⟩ ⟨c0, c1⟩ hp
  obtain ⟨l0, mem0, I⟩ := shut_mi (c := c) hn a0 b0 (by omega) okp
  have own : ∀ p ∈ ps, ∀ t, (if p.1 - a > 0 then p.1 - a else 0) ≤ t → t < p.2 → covB (shutL a b c ps) t = true := fun p hp' t h1 h2 =>
    covB_iff.mpr ((I.cov t).mpr ((shutP_perm mem0).mpr (own_shut hp' (okp p hp') a0 b0 h1 h2)))
  have wide : ∀ (a' b' c' t : Int), a ≤ a' → b ≤ b' → b' ≤ 1000 → c ≤ c' → covB (shutL a b c ps) t = true → covB (shutL a' b' c' ps) t = true := fun a' b' c' t h1 h2 h2' h3 h4 => by
    obtain ⟨l1, mem1, I1⟩ := shut_mi (c := c') hn (by omega : 0 ≤ a') (by omega : 0 ≤ b') h2' okp
    exact covB_iff.mpr ((I1.cov t).mpr ((shutP_perm mem1).mpr (wide_shut okp h1 a0 h2 b0 h3 ((shutP_perm mem0).mp ((I.cov t).mp (covB_iff.mp h4))))))
  obtain ⟨g, la, eO, _, _⟩ := I.last
  have xO : ∃ x r, shutL a b c ps = x :: r := by
    cases q : shutL a b c ps with
    | nil => rw [q] at eO; simp at eO
    | cons x r => exact ⟨x, r, rfl⟩
  obtain ⟨x0, rr, eX⟩ := xO
  have okx := I.ok x0 (by rw [eX]; simp)
  have okl := I.ok la (by rw [eO]; simp)
  have i0 : ∀ M : Mp, fIx (.lst ((shutL a b c ps).map dP)) (.int 0) M = some (dP x0) := fun M => by rw [eX, List.map_cons, z_ixL, z_at0]
  have i1 : ∀ M : Mp, fIx (.lst ((shutL a b c ps).map dP)) (.int (-1)) M = some (dP la) := fun M => by rw [eO, List.map_append, z_ixL]; exact z_atL
  show (sSeq (sPar 3 4 (dCons (dCall sp_raw_shut (dCons (dVar 1) (dCons (dVar 2) dNil))) (dCons (dFn gRepr (dCons (dLst (dCons (dVar 1) (dCons (dVar 2) dNil))) dNil)) dNil))) isrA) (endF Q E) [some (.ref h), some (dG a b c), some (dPs ps), none, none, none, none, none, none, none, none, none, none, none, none] M
  simp only [z_seq, z_par, z_cons, z_nil, z_call, z_var, z_get0, z_get1, ok1_some, z_fn, z_lst, List.length_cons, List.length_nil]
  refine ⟨a, b, c, ps, rfl, len100, by decide, ?_⟩
  rw [rep]
  simp only [ok1_some, z_set0, z_set1]
  refine rA ga pok rfl (r0 I.adj (r1 hM hl fun v1 v2 v3 l3 h1 h2 h3 hl3 => ?_))
  refine r2 ga ⟨⟨by omega, by omega⟩, ⟨by omega, by omega⟩, by omega, by omega⟩ pok okx okl rfl i0 i1 (fun t => wide _ _ _ t (by omega) (by omega) (by omega) (by omega)) put_same hl3 fun l4 u7 u8 hl4 => ?_
  rw [put_put]
  exact r3 ga pok okp rep rfl own (endF_rt (q l4 hl4))
end K69

namespace K69
open PySem PySem.Spec PyProof.Rows L2 DL
def sp_law : DSp := fun ds _ Q _ => ∃ ns : List Int, ds = [.scr (ns.map D.int)] ∧ ns.length ≤ 63 ∧ ∀ M', Q (.bl true) M'
theorem mono_law : MonoP sp_law := fun ds M Q Q' E E' h _ ⟨n, e1, e2, q⟩ => ⟨n, e1, e2, fun M' => h _ _ (q M')⟩
theorem len_law : ∀ ds M Q E, sp_law ds M Q E → ds.length = 1 := fun ds M Q E ⟨n, e1, _⟩ => by rw [e1]; rfl
theorem sh_of {a b c : Int} {ps : List Pr} (h : (ps.map (wdn a b)).Pairwise (fun p q => leP p q = true)) : shutL a b c ps = (ps.map (wdn a b)).foldl (mg1 c) [] := by
  unfold shutL
  rw [List.mergeSort_of_pairwise h]
theorem sh1 : shutL 5 2 0 [(3, 6), (20, 30)] = [(0, 8), (15, 32)] := by rw [sh_of (by decide)]; decide
theorem sh2 : shutL 5 2 8 [(3, 6), (20, 30)] = [(0, 32)] := by rw [sh_of (by decide)]; decide
theorem sh3 : shutL 0 0 0 [(1, 2), (2, 3)] = [(1, 3)] := by rw [sh_of (by decide)]; decide
theorem sh4 : shutL 5 2 0 [(3, 6)] = [(0, 8)] := by rw [sh_of (by decide)]; decide
theorem sh5 : shutL 5 2 7 [(3, 6), (20, 30)] = [(0, 8), (15, 32)] := by rw [sh_of (by decide)]; decide
theorem pk1 : PsOk [(3, 6), (20, 30)] := ⟨⟨by decide, by decide⟩, fun p hp => by simp at hp; rcases hp with rfl | rfl <;> decide, by simp [ltP]⟩
theorem pk2 : PsOk [(1, 2), (2, 3)] := ⟨⟨by decide, by decide⟩, fun p hp => by simp at hp; rcases hp with rfl | rfl <;> decide, by simp [ltP]⟩
theorem pk3 : PsOk [(3, 6)] := ⟨⟨by decide, by decide⟩, fun p hp => by simp at hp; subst hp; decide, by simp⟩
def lw2 : DS := sRet (dFn gAll (dCons (dComp (iRange1 (dCons (dC (.int 8)) dNil)) (gVar 3) tYesD (dCall sp__law_is_right (dCons (dVar 1) (dCons (dCall sp__law_gate (dCons (dVar 1) dNil)) (dCons (dCall sp__law_passages (dCons (dVar 1) (dCons (dC (.int 10)) dNil))) dNil)))) [3]) dNil))
def lw1 : DS := sSeq (sIf (tOf (dOp fNe (dLst (dCons (dCall sp_is_shut (dCons (dTup (dCons (dC (.int 5)) (dCons (dC (.int 2)) (dCons (dC (.int 0)) dNil)))) (dCons (dTup (dCons (dTup (dCons (dC (.int 3)) (dCons (dC (.int 6)) dNil))) dNil)) (dCons (dC (.int 7)) dNil)))) (dCons (dCall sp_is_shut (dCons (dTup (dCons (dC (.int 5)) (dCons (dC (.int 2)) (dCons (dC (.int 0)) dNil)))) (dCons (dTup (dCons (dTup (dCons (dC (.int 3)) (dCons (dC (.int 6)) dNil))) dNil)) (dCons (dC (.int 8)) dNil)))) (dCons (dCall sp_shut_times (dCons (dTup (dCons (dC (.int 5)) (dCons (dC (.int 2)) (dCons (dC (.int 7)) dNil)))) (dCons (dTup (dCons (dTup (dCons (dC (.int 3)) (dCons (dC (.int 6)) dNil))) (dCons (dTup (dCons (dC (.int 20)) (dCons (dC (.int 30)) dNil))) dNil))) dNil))) dNil)))) (dLst (dCons (dC (.bl true)) (dCons (dC (.bl false)) (dCons (dTup (dCons (dTup (dCons (dC (.int 0)) (dCons (dC (.int 8)) dNil))) (dCons (dTup (dCons (dC (.int 15)) (dCons (dC (.int 32)) dNil))) dNil))) dNil)))))) (sRet (dC (.bl false))) sNext) lw2
def lw0 : DS := sSeq (sAsg (dLst (dCons (dCall sp_shut_times (dCons (dTup (dCons (dC (.int 5)) (dCons (dC (.int 2)) (dCons (dC (.int 0)) dNil)))) (dCons (dTup (dCons (dTup (dCons (dC (.int 3)) (dCons (dC (.int 6)) dNil))) (dCons (dTup (dCons (dC (.int 20)) (dCons (dC (.int 30)) dNil))) dNil))) dNil))) (dCons (dCall sp_shut_times (dCons (dTup (dCons (dC (.int 5)) (dCons (dC (.int 2)) (dCons (dC (.int 8)) dNil)))) (dCons (dTup (dCons (dTup (dCons (dC (.int 3)) (dCons (dC (.int 6)) dNil))) (dCons (dTup (dCons (dC (.int 20)) (dCons (dC (.int 30)) dNil))) dNil))) dNil))) (dCons (dCall sp_shut_many (dCons (dTup (dCons (dC (.int 5)) (dCons (dC (.int 2)) (dCons (dC (.int 0)) dNil)))) (dCons (dTup (dCons (dTup (dCons (dC (.int 3)) (dCons (dC (.int 6)) dNil))) (dCons (dTup (dCons (dC (.int 20)) (dCons (dC (.int 30)) dNil))) dNil))) dNil))) (dCons (dCall sp_shut_times (dCons (dTup (dCons (dC (.int 0)) (dCons (dC (.int 0)) (dCons (dC (.int 0)) dNil)))) (dCons (dTup (dCons (dTup (dCons (dC (.int 1)) (dCons (dC (.int 2)) dNil))) (dCons (dTup (dCons (dC (.int 2)) (dCons (dC (.int 3)) dNil))) dNil))) dNil))) dNil))))) (gVar 2)) (sSeq (sIf (tNot (tOf (dCall sS (dCons (dVar 2) (dCons (dLst (dCons (dTup (dCons (dTup (dCons (dC (.int 0)) (dCons (dC (.int 8)) dNil))) (dCons (dTup (dCons (dC (.int 15)) (dCons (dC (.int 32)) dNil))) dNil))) (dCons (dTup (dCons (dTup (dCons (dC (.int 0)) (dCons (dC (.int 32)) dNil))) dNil)) (dCons (dTup (dCons (dC (.int 2)) (dCons (dC (.int 25)) dNil))) (dCons (dTup (dCons (dTup (dCons (dC (.int 1)) (dCons (dC (.int 3)) dNil))) dNil)) dNil))))) dNil))))) (sRet (dC (.bl false))) sNext) lw1)
section
variable {En : DEnds} {M : Mp} {h : Addr} {s hd : D} {a b c : Int} {ps : List Pr}
theorem ask_times {ds : List D} (e : ds = [dG a b c, dPs ps]) (ga : GateOk a b c) (pk : PsOk ps) {Q : DK} {E : DX} {O : List Pr} (eO : shutL a b c ps = O) (q : Q (dPs O) M) : sp_shut_times ds M Q E := ⟨a, b, c, ps, e, ga, pk, by rw [eO]; exact q⟩
theorem lwB {l : List D} (hM : M h = some (.lst l)) (hl : HandOk l) (q : ∀ M', En.rt (.bl true) M') : lw2 En [some s, some (.ref h), some hd, none] M := by
  unfold lw2
  simp only [z_ret, z_fn, z_cons, z_nil, z_comp, z_range1, z_c]
  refine ⟨⟨by decide, by decide⟩, fun p hp => ?_⟩
  have ne : h ≠ p := ne_fresh hM hp
  refine compT_inv monoG_var mono_yes (mono_call mono_right (mono_cons mono_var (mono_cons (mono_call mono_gate (mono_cons mono_var mono_nil)) (mono_cons (mono_call mono_passages (mono_cons mono_var (mono_cons mono_c mono_nil))) mono_nil))))
    (fun rest acc M1 => ∃ (n : Nat) (l4 : List D), acc = List.replicate n (.bl true) ∧ M1 = put (put M h (.lst l4)) p .priv ∧ HandOk l4) (fun x post acc M1 hI => ?_) (fun acc M1 hI => ?_) _ [] _ ⟨0, l, rfl, by rw [← put_self hM], hl⟩
  · obtain ⟨n, l4, rfl, rfl, hl4⟩ := hI
    refine ⟨trivial, put_same, ?_⟩
    simp only [z_gvar, z_wipe1, z_wipe0, z_set0, z_set1, z_yes, if_true, z_call, z_cons, z_nil, z_var, z_get0, z_get1, ok1_some, z_c]
    refine ⟨h, l4, rfl, by rw [put_ne ne, put_same], hl4, fun a b c l5 a0 a1 b0 b1 c0 c1 hl5 => ?_⟩
    rw [put_mid ne]
    refine ⟨h, l5, rfl, by rw [put_ne ne, put_same], hl5, fun ps l6 hps hl6 => ?_⟩
    rw [put_mid ne]
    refine ⟨h, l6, a, b, c, ps, rfl, by rw [put_ne ne, put_same], hl6, ⟨a0, a1⟩, ⟨b0, b1⟩, ⟨c0, c1⟩, hps, fun l7 hl7 => ?_⟩
    rw [put_mid ne]
    exact ⟨n + 1, l7, by rw [List.replicate_succ'], rfl, hl7⟩
  · obtain ⟨n, l4, rfl, rfl, hl4⟩ := hI
    refine ⟨trivial, put_same, ?_⟩
    rw [z_allL, flags_true]
    simp
    exact q _
theorem lwA (q : lw2 En [some s, some (.ref h), some hd, none] M) : lw1 En [some s, some (.ref h), some hd, none] M := by
  unfold lw1
  simp only [z_seq, z_if, z_tOf, z_op, z_lst, z_cons, z_nil, z_call, z_tup, z_c, List.length_cons, List.length_nil]
  refine ⟨by decide, by decide, by decide, 5, 2, 0, [(3, 6)], 7, rfl, ⟨by decide, by decide, by decide⟩, pk3, by decide, by decide, ?_⟩
  refine ⟨by decide, by decide, by decide, 5, 2, 0, [(3, 6)], 8, rfl, ⟨by decide, by decide, by decide⟩, pk3, by decide, by decide, ?_⟩
  refine ⟨by decide, by decide, by decide, by decide, ask_times (a := 5) (b := 2) (c := 7) rfl ⟨by decide, by decide, by decide⟩ pk1 sh5 ?_⟩
  refine ⟨by decide, by decide, by decide, by decide, by decide, ?_⟩
  rw [sh4, show covB [(0, 8)] 7 = true by decide, show covB [(0, 8)] 8 = false by decide]
  rw [show fNe (.lst [.bl true, .bl false, dPs [(0, 8), (15, 32)]]) (.lst [.bl true, .bl false, .tup [.tup [.int 0, .int 8], .tup [.int 15, .int 32]]]) M = some (.bl false) by simp [fNe, deref, shp, deq, deqs, dPs, dP]]
  simp only [ok1_some, z_bool1, Bool.false_eq_true, if_false, z_next]
  exact q
theorem lwC (q : ∀ hd, lw1 En [some s, some (.ref h), some hd, none] M) : lw0 En [some s, some (.ref h), none, none] M := by
  unfold lw0
  simp only [z_seq, z_asg, z_lst, z_cons, z_nil, z_call, z_tup, z_c, List.length_cons, List.length_nil]
  refine ⟨by decide, by decide, by decide, by decide, ask_times (a := 5) (b := 2) (c := 0) rfl ⟨by decide, by decide, by decide⟩ pk1 sh1 ?_⟩
  refine ⟨by decide, by decide, by decide, by decide, ask_times (a := 5) (b := 2) (c := 8) rfl ⟨by decide, by decide, by decide⟩ pk1 sh2 ?_⟩
  refine ⟨by decide, by decide, by decide, by decide, 5, 2, 0, [(3, 6), (20, 30)], rfl, ⟨by decide, by decide, by decide⟩, pk1, ?_⟩
  refine ⟨by decide, by decide, by decide, by decide, ask_times (a := 0) (b := 0) (c := 0) rfl ⟨by decide, by decide, by decide⟩ pk2 sh3 ?_⟩
  rw [sh1]
  refine ⟨by decide, ?_⟩
  simp only [z_gvar, z_set0, z_set1, z_if, z_tnot, z_tOf, z_call, z_cons, z_nil, z_var, z_get0, z_get1, ok1_some, z_lst, z_tup, z_c, z_seq, List.length_cons, List.length_nil]
  refine ⟨by decide, by decide, by decide, by decide, by decide, by decide, by decide, by decide, by decide, _, rfl, by decide, ?_⟩
  simp only [z_bool1, ok1_some, Bool.not_true, Bool.false_eq_true, if_false, z_next]
  exact q _
end
theorem rd_law : ∀ ds M Q E, sp_law ds M Q E → t_law sp_shut_times sp_is_shut sp_shut_many sp__law_hand sS sp__law_gate sp__law_passages sp__law_is_right (endF Q E) (startD ["script", "hand", "heard", "lap"] ds) M := by
  rintro ds M Q E ⟨ns, rfl, hl, q⟩
  show (sSeq (sAsg (dCall sp__law_hand (dCons (dVar 0) dNil)) (gVar 1)) lw0) (endF Q E) [some (.scr (ns.map D.int)), none, none, none] M
  simp only [z_seq, z_asg, z_call, z_cons, z_nil, z_var, z_get0, z_get1, ok1_some]
  refine ⟨ns, rfl, hl, fun p l hp hl => ?_⟩
  simp only [z_gvar, z_set0, z_set1]
  exact lwC fun hd => lwA (lwB put_same hl fun M' => endF_rt (q M'))
end K69

namespace K69
open PySem PySem.Spec PyProof.Rows L2 DL
theorem sp_law_ask (ns : List Int) (hl : ns.length ≤ 63) : sp_law [.scr (ns.map D.int)] (fun _ => none) (fun d _ => d = .bl true) fun _ _ _ => False := ⟨ns, rfl, hl, fun _ => rfl⟩
def dd_is_integer : He.DefD := ⟨("is_integer", none), "is_integer", "is_integer", defArgs s_is_integer, defBody s_is_integer, defScope s_is_integer, [], []⟩
def dd_is_within : He.DefD := ⟨("is_within", none), "is_within", "is_within", defArgs s_is_within, defBody s_is_within, defScope s_is_within, [], []⟩
def dd_is_sized : He.DefD := ⟨("is_sized", none), "is_sized", "is_sized", defArgs s_is_sized, defBody s_is_sized, defScope s_is_sized, [], []⟩
def dd_is_gate : He.DefD := ⟨("is_gate", none), "is_gate", "is_gate", defArgs s_is_gate, defBody s_is_gate, defScope s_is_gate, [], []⟩
def dd_is_passage : He.DefD := ⟨("is_passage", none), "is_passage", "is_passage", defArgs s_is_passage, defBody s_is_passage, defScope s_is_passage, [], []⟩
def dd_are_passages : He.DefD := ⟨("are_passages", none), "are_passages", "are_passages", defArgs s_are_passages, defBody s_are_passages, defScope s_are_passages, [], []⟩
def dd_check_gate : He.DefD := ⟨("check_gate", none), "check_gate", "check_gate", defArgs s_check_gate, defBody s_check_gate, defScope s_check_gate, [], []⟩
def dd_raw_shut : He.DefD := ⟨("raw_shut", none), "raw_shut", "raw_shut", defArgs s_raw_shut, defBody s_raw_shut, defScope s_raw_shut, [], []⟩
def dd_shut_times : He.DefD := ⟨("shut_times", none), "shut_times", "shut_times", defArgs s_shut_times, defBody s_shut_times, defScope s_shut_times, [], []⟩
def dd_check_time : He.DefD := ⟨("check_time", none), "check_time", "check_time", defArgs s_check_time, defBody s_check_time, defScope s_check_time, [], []⟩
def dd_is_shut : He.DefD := ⟨("is_shut", none), "is_shut", "is_shut", defArgs s_is_shut, defBody s_is_shut, defScope s_is_shut, [], []⟩
def dd_shut_many : He.DefD := ⟨("shut_many", none), "shut_many", "shut_many", defArgs s_shut_many, defBody s_shut_many, defScope s_shut_many, [], []⟩
def dd__law_hand : He.DefD := ⟨("_law_hand", none), "_law_hand", "_law_hand", defArgs s__law_hand, defBody s__law_hand, defScope s__law_hand, [], []⟩
def dd__law_draw : He.DefD := ⟨("_law_draw", none), "_law_draw", "_law_draw", defArgs s__law_draw, defBody s__law_draw, defScope s__law_draw, [], []⟩
def dd__law_any : He.DefD := ⟨("_law_any", none), "_law_any", "_law_any", defArgs s__law_any, defBody s__law_any, defScope s__law_any, [], []⟩
def dd__law_same : He.DefD := ⟨("_law_same", none), "_law_same", "_law_same", defArgs s__law_same, defBody s__law_same, defScope s__law_same, [], []⟩
def dd__law_gate : He.DefD := ⟨("_law_gate", none), "_law_gate", "_law_gate", defArgs s__law_gate, defBody s__law_gate, defScope s__law_gate, [], []⟩
def dd__law_passages : He.DefD := ⟨("_law_passages", none), "_law_passages", "_law_passages", defArgs s__law_passages, defBody s__law_passages, defScope s__law_passages, [], []⟩
def dd__law_shut : He.DefD := ⟨("_law_shut", none), "_law_shut", "_law_shut", defArgs s__law_shut, defBody s__law_shut, defScope s__law_shut, [], []⟩
def dd__law_is_right : He.DefD := ⟨("_law_is_right", none), "_law_is_right", "_law_is_right", defArgs s__law_is_right, defBody s__law_is_right, defScope s__law_is_right, [], []⟩
def dd_law : He.DefD := ⟨("law", none), "law", "law", defArgs s_law, defBody s_law, defScope s_law, [], []⟩
def fn : List He.DefD := ([dd_is_integer, dd_is_within, dd_is_sized, dd_is_gate, dd_is_passage, dd_are_passages, dd_check_gate, dd_raw_shut, dd_shut_times, dd_check_time, dd_is_shut, dd_shut_many, dd__law_hand, dd__law_draw, dd__law_any, dd__law_same, dd__law_gate, dd__law_passages, dd__law_shut, dd__law_is_right, dd_law] : List He.DefD)
def fa : List He.Fa := ([.glo "is_integer", .glo "is_within", .glo "is_sized", .glo "is_gate", .glo "is_passage", .glo "are_passages", .glo "check_gate", .glo "raw_shut", .glo "shut_times", .glo "check_time", .glo "is_shut", .glo "shut_many", .glo "_law_hand", .glo "_law_draw", .glo "_law_any", .glo "_law_same", .glo "_law_gate", .glo "_law_passages", .glo "_law_shut", .glo "_law_is_right", .glo "law", .free "abs", .free "all", .free "any", .free "bool", .free "int", .free "isinstance", .free "len", .free "list", .free "max"] : List He.Fa) ++ ([.free "range", .free "repr", .free "set", .free "sorted", .free "sum", .free "tuple", .free "zip", .int "MOST_GATE" 1000, .int "MOST_PASSAGES" 40, .int "MOST_TIME" 100000, .int "MOST_TOLD" 9999999999999999999999999999999999999999] : List He.Fa)
def loose : List Str := (["is_integer", "is_within", "is_sized", "TrackError", "NoGate", "NoPassages", "NoTime", "MOST_GATE", "MOST_PASSAGES", "MOST_TIME", "MOST_TOLD", "is_gate", "is_passage", "are_passages", "check_gate", "raw_shut", "shut_times", "check_time", "is_shut", "shut_many", "_law_hand", "_law_draw", "_law_any", "_law_same", "_law_gate", "_law_passages", "_law_shut", "_law_is_right"] : List Str)
abbrev R : PySem.W.OpenRow := PySem.W.OpenLaw.row PySem.Challenge.rw_trackhouse_k69_whole_shut_gates
abbrev hk : PySem.W.Hook := He.hookX 4 fa fn [] [] (fun _ => true)
def ob (s : PySem.W.SharedT) : He.AlX := He.obsX 4 fa fn [] [] (fun _ => true) (HandSHeadRun.getT s)
theorem ob_eq (s : PySem.W.SharedT) : ob s = hk.obs s.abs := He.obsX_eq (HandSHeadRun.getT_eq s)
theorem run (w : World) : HandSHeadRun.RunEq R (PySem.W.view R.prog [32]) hk ob 2000 loose w := by
  intro os
  kernel_rfl
theorem all_ok {P : Program} {w : World} {K : PySem.W.Frag} {mg : Str → Option Value} {base : Heap} {T : List (Addr × Str)} (B : Bs K mg)
    (Z_is_integer : DefAt K mg "is_integer" s_is_integer) (Z_is_within : DefAt K mg "is_within" s_is_within) (Z_is_sized : DefAt K mg "is_sized" s_is_sized) (Z_is_gate : DefAt K mg "is_gate" s_is_gate) (Z_is_passage : DefAt K mg "is_passage" s_is_passage) (Z_are_passages : DefAt K mg "are_passages" s_are_passages) (Z_check_gate : DefAt K mg "check_gate" s_check_gate) (Z_raw_shut : DefAt K mg "raw_shut" s_raw_shut) (Z_shut_times : DefAt K mg "shut_times" s_shut_times) (Z_check_time : DefAt K mg "check_time" s_check_time) (Z_is_shut : DefAt K mg "is_shut" s_is_shut) (Z_shut_many : DefAt K mg "shut_many" s_shut_many) (Z__law_hand : DefAt K mg "_law_hand" s__law_hand) (Z__law_draw : DefAt K mg "_law_draw" s__law_draw) (Z__law_any : DefAt K mg "_law_any" s__law_any) (Z__law_same : DefAt K mg "_law_same" s__law_same) (Z__law_gate : DefAt K mg "_law_gate" s__law_gate) (Z__law_passages : DefAt K mg "_law_passages" s__law_passages) (Z__law_shut : DefAt K mg "_law_shut" s__law_shut) (Z__law_is_right : DefAt K mg "_law_is_right" s__law_is_right) (Z_law : DefAt K mg "law" s_law) :
    FnX P w K mg base T 60 "law" ["script"] sp_law := by
  have G_is_integer : FnX P w K mg base T 1 "is_integer" ["thing"] sp_is_integer := ok_is_integer (k := 0) B Z_is_integer  (fun _ _ _ _ q => q.1) mono_pure rd_is_integer
  have G_is_within : FnX P w K mg base T 2 "is_within" ["thing", "low", "high"] sp_is_within := ok_is_within (k := 1) B Z_is_within (G_is_integer.up (k' := 1) rfl) (fun _ _ _ _ q => q.1) mono_pure rd_is_within
  have G_is_sized : FnX P w K mg base T 1 "is_sized" ["thing", "low", "high"] sp_is_sized := ok_is_sized (k := 0) B Z_is_sized  len_sized mono_sized rd_is_sized
  have G_is_gate : FnX P w K mg base T 3 "is_gate" ["thing"] sp_is_gate := ok_is_gate (k := 2) B Z_is_gate (G_is_within.up (k' := 2) rfl) (G_is_sized.up (k' := 2) rfl) len_is_gate mono_is_gate rd_is_gate
  have G_is_passage : FnX P w K mg base T 3 "is_passage" ["thing"] sp_is_passage := ok_is_passage (k := 2) B Z_is_passage (G_is_within.up (k' := 2) rfl) (G_is_sized.up (k' := 2) rfl) len_is_passage mono_is_passage rd_is_passage
  have G_are_passages : FnX P w K mg base T 4 "are_passages" ["thing"] sp_are_passages := ok_are_passages (k := 3) B Z_are_passages (G_is_sized.up (k' := 3) rfl) (G_is_passage.up (k' := 3) rfl) len_are_passages mono_are_passages rd_are_passages
  have G_check_gate : FnX P w K mg base T 5 "check_gate" ["gate", "passages"] sp_check_gate := ok_check_gate (k := 4) B Z_check_gate (G_is_gate.up (k' := 4) rfl) (G_are_passages.up (k' := 4) rfl) len_check_gate mono_check_gate rd_check_gate
  have G_raw_shut : FnX P w K mg base T 1 "raw_shut" ["gate", "passages"] sp_raw_shut := ok_raw_shut (k := 0) B Z_raw_shut  len_raw mono_raw rd_raw_shut
  have G_shut_times : FnX P w K mg base T 6 "shut_times" ["gate", "passages"] sp_shut_times := ok_shut_times (k := 5) B Z_shut_times (G_check_gate.up (k' := 5) rfl) (G_raw_shut.up (k' := 5) rfl) len_shut_times mono_shut_times rd_shut_times
  have G_check_time : FnX P w K mg base T 3 "check_time" ["time"] sp_check_time := ok_check_time (k := 2) B Z_check_time (G_is_within.up (k' := 2) rfl) len_check_time mono_check_time rd_check_time
  have G_is_shut : FnX P w K mg base T 6 "is_shut" ["gate", "passages", "time"] sp_is_shut := ok_is_shut (k := 5) B Z_is_shut (G_check_gate.up (k' := 5) rfl) (G_raw_shut.up (k' := 5) rfl) (G_check_time.up (k' := 5) rfl) len_is_shut mono_is_shut rd_is_shut
  have G_shut_many : FnX P w K mg base T 6 "shut_many" ["gate", "passages"] sp_shut_many := ok_shut_many (k := 5) B Z_shut_many (G_check_gate.up (k' := 5) rfl) (G_raw_shut.up (k' := 5) rfl) len_shut_many mono_shut_many rd_shut_many
  have G__law_hand : FnX P w K mg base T 1 "_law_hand" ["script"] sp__law_hand := ok__law_hand (k := 0) B Z__law_hand  len_hand mono_hand rd__law_hand
  have G__law_draw : FnX P w K mg base T 1 "_law_draw" ["hand", "many"] sp__law_draw := ok__law_draw (k := 0) B Z__law_draw  len_draw mono_draw rd__law_draw
  have G__law_any : FnX P w K mg base T 2 "_law_any" ["hand", "some"] sp__law_any := ok__law_any (k := 1) B Z__law_any (G__law_draw.up (k' := 1) rfl) len_any mono_any rd__law_any
  have R_0 : FnX P w K mg base T 0 "_law_same" ["one", "due"] (spS 0) := fnx_bot Z__law_same bn__law_same
  have R_1 : FnX P w K mg base T 1 "_law_same" ["one", "due"] (spS 1) := ok__law_same (k := 0) B Z__law_same (R_0.up (k' := 0) rfl) (len_same 1) (mono_same 1) (rd__law_same 0)
  have R_2 : FnX P w K mg base T 2 "_law_same" ["one", "due"] (spS 2) := ok__law_same (k := 1) B Z__law_same (R_1.up (k' := 1) rfl) (len_same 2) (mono_same 2) (rd__law_same 1)
  have R_3 : FnX P w K mg base T 3 "_law_same" ["one", "due"] (spS 3) := ok__law_same (k := 2) B Z__law_same (R_2.up (k' := 2) rfl) (len_same 3) (mono_same 3) (rd__law_same 2)
  have R_4 : FnX P w K mg base T 4 "_law_same" ["one", "due"] (spS 4) := ok__law_same (k := 3) B Z__law_same (R_3.up (k' := 3) rfl) (len_same 4) (mono_same 4) (rd__law_same 3)
  have R_5 : FnX P w K mg base T 5 "_law_same" ["one", "due"] (spS 5) := ok__law_same (k := 4) B Z__law_same (R_4.up (k' := 4) rfl) (len_same 5) (mono_same 5) (rd__law_same 4)
  have G__law_same : FnX P w K mg base T 6 "_law_same" ["one", "due"] (spS 6) := ok__law_same (k := 5) B Z__law_same (R_5.up (k' := 5) rfl) (len_same 6) (mono_same 6) (rd__law_same 5)
  have G__law_gate : FnX P w K mg base T 3 "_law_gate" ["hand"] sp__law_gate := ok__law_gate (k := 2) B Z__law_gate (G__law_draw.up (k' := 2) rfl) (G__law_any.up (k' := 2) rfl) len_gate mono_gate rd__law_gate
  have G__law_passages : FnX P w K mg base T 3 "_law_passages" ["hand", "most"] sp__law_passages := ok__law_passages (k := 2) B Z__law_passages (G__law_draw.up (k' := 2) rfl) (G__law_any.up (k' := 2) rfl) len_passages mono_passages rd__law_passages
  have G__law_shut : FnX P w K mg base T 1 "_law_shut" ["gate", "passages"] sp_raw_shut := ok__law_shut (k := 0) B Z__law_shut  len_raw mono_raw rd__law_shut
  have G__law_is_right : FnX P w K mg base T 7 "_law_is_right" ["hand", "gate", "passages"] sp__law_is_right := ok__law_is_right (k := 6) B Z__law_is_right (G_shut_times.up (k' := 6) rfl) (G_is_shut.up (k' := 6) rfl) (G_shut_many.up (k' := 6) rfl) (G__law_draw.up (k' := 6) rfl) (G__law_same.up (k' := 6) rfl) (G__law_shut.up (k' := 6) rfl) len_right mono_right rd__law_is_right
  have G_law : FnX P w K mg base T 8 "law" ["script"] sp_law := ok_law (k := 7) B Z_law (G_shut_times.up (k' := 7) rfl) (G_is_shut.up (k' := 7) rfl) (G_shut_many.up (k' := 7) rfl) (G__law_hand.up (k' := 7) rfl) (G__law_same.up (k' := 7) rfl) (G__law_gate.up (k' := 7) rfl) (G__law_passages.up (k' := 7) rfl) (G__law_is_right.up (k' := 7) rfl) len_law mono_law rd_law
  exact G_law.up rfl
theorem facts {l : PySem.W.OpenLaw} {w : World} {K : PySem.W.Frag} {h : Heap} {mg : Str → Option Value} {f : Addr} (X : K.In h) (G : h.Ns mainGlobals mg) (hfa : mg ("law" : Str) = some (.ref f)) (c0 : He.SaysX fa fn [] [] (fun _ => true) w h K) :
    LawG l w K 60 63 "script" "law" mg f h := by
  have c := c0.t.d
  have Z_is_integer := defAt_of (st := s_is_integer) X G (c.def_ 0 (d := dd_is_integer) rfl) (c.fact 0 (f := .glo "is_integer") rfl)
  have Z_is_within := defAt_of (st := s_is_within) X G (c.def_ 1 (d := dd_is_within) rfl) (c.fact 1 (f := .glo "is_within") rfl)
  have Z_is_sized := defAt_of (st := s_is_sized) X G (c.def_ 2 (d := dd_is_sized) rfl) (c.fact 2 (f := .glo "is_sized") rfl)
  have Z_is_gate := defAt_of (st := s_is_gate) X G (c.def_ 3 (d := dd_is_gate) rfl) (c.fact 3 (f := .glo "is_gate") rfl)
  have Z_is_passage := defAt_of (st := s_is_passage) X G (c.def_ 4 (d := dd_is_passage) rfl) (c.fact 4 (f := .glo "is_passage") rfl)
  have Z_are_passages := defAt_of (st := s_are_passages) X G (c.def_ 5 (d := dd_are_passages) rfl) (c.fact 5 (f := .glo "are_passages") rfl)
  have Z_check_gate := defAt_of (st := s_check_gate) X G (c.def_ 6 (d := dd_check_gate) rfl) (c.fact 6 (f := .glo "check_gate") rfl)
  have Z_raw_shut := defAt_of (st := s_raw_shut) X G (c.def_ 7 (d := dd_raw_shut) rfl) (c.fact 7 (f := .glo "raw_shut") rfl)
  have Z_shut_times := defAt_of (st := s_shut_times) X G (c.def_ 8 (d := dd_shut_times) rfl) (c.fact 8 (f := .glo "shut_times") rfl)
  have Z_check_time := defAt_of (st := s_check_time) X G (c.def_ 9 (d := dd_check_time) rfl) (c.fact 9 (f := .glo "check_time") rfl)
  have Z_is_shut := defAt_of (st := s_is_shut) X G (c.def_ 10 (d := dd_is_shut) rfl) (c.fact 10 (f := .glo "is_shut") rfl)
  have Z_shut_many := defAt_of (st := s_shut_many) X G (c.def_ 11 (d := dd_shut_many) rfl) (c.fact 11 (f := .glo "shut_many") rfl)
  have Z__law_hand := defAt_of (st := s__law_hand) X G (c.def_ 12 (d := dd__law_hand) rfl) (c.fact 12 (f := .glo "_law_hand") rfl)
  have Z__law_draw := defAt_of (st := s__law_draw) X G (c.def_ 13 (d := dd__law_draw) rfl) (c.fact 13 (f := .glo "_law_draw") rfl)
  have Z__law_any := defAt_of (st := s__law_any) X G (c.def_ 14 (d := dd__law_any) rfl) (c.fact 14 (f := .glo "_law_any") rfl)
  have Z__law_same := defAt_of (st := s__law_same) X G (c.def_ 15 (d := dd__law_same) rfl) (c.fact 15 (f := .glo "_law_same") rfl)
  have Z__law_gate := defAt_of (st := s__law_gate) X G (c.def_ 16 (d := dd__law_gate) rfl) (c.fact 16 (f := .glo "_law_gate") rfl)
  have Z__law_passages := defAt_of (st := s__law_passages) X G (c.def_ 17 (d := dd__law_passages) rfl) (c.fact 17 (f := .glo "_law_passages") rfl)
  have Z__law_shut := defAt_of (st := s__law_shut) X G (c.def_ 18 (d := dd__law_shut) rfl) (c.fact 18 (f := .glo "_law_shut") rfl)
  have Z__law_is_right := defAt_of (st := s__law_is_right) X G (c.def_ 19 (d := dd__law_is_right) rfl) (c.fact 19 (f := .glo "_law_is_right") rfl)
  have Z_law := defAt_of (st := s_law) X G (c.def_ 20 (d := dd_law) rfl) (c.fact 20 (f := .glo "law") rfl)
  have B : Bs K mg := ⟨He.free_ok X G (c.fact 21 (f := .free "abs") rfl), He.free_ok X G (c.fact 22 (f := .free "all") rfl), He.free_ok X G (c.fact 23 (f := .free "any") rfl), He.free_ok X G (c.fact 24 (f := .free "bool") rfl), He.free_ok X G (c.fact 25 (f := .free "int") rfl), He.free_ok X G (c.fact 26 (f := .free "isinstance") rfl), He.free_ok X G (c.fact 27 (f := .free "len") rfl), He.free_ok X G (c.fact 28 (f := .free "list") rfl), He.free_ok X G (c.fact 29 (f := .free "max") rfl), He.free_ok X G (c.fact 30 (f := .free "range") rfl), He.free_ok X G (c.fact 31 (f := .free "repr") rfl), He.free_ok X G (c.fact 32 (f := .free "set") rfl), He.free_ok X G (c.fact 33 (f := .free "sorted") rfl), He.free_ok X G (c.fact 34 (f := .free "sum") rfl), He.free_ok X G (c.fact 35 (f := .free "tuple") rfl), He.free_ok X G (c.fact 36 (f := .free "zip") rfl), He.int_ok X G (c.fact 37 (f := .int "MOST_GATE" 1000) rfl), He.int_ok X G (c.fact 38 (f := .int "MOST_PASSAGES" 40) rfl), He.int_ok X G (c.fact 39 (f := .int "MOST_TIME" 100000) rfl), He.int_ok X G (c.fact 40 (f := .int "MOST_TOLD" 9999999999999999999999999999999999999999) rfl)⟩
  refine ⟨hfa, [], [], sp_law, fun p hp => (nomatch hp), fun p hp => (nomatch hp), fun p hp => (nomatch hp), fun p hp => (nomatch hp), fun ns hl _ => ?_, fun base _ _ _ => ?_⟩
  · exact sp_law_ask ns hl
  · exact all_ok B Z_is_integer Z_is_within Z_is_sized Z_is_gate Z_is_passage Z_are_passages Z_check_gate Z_raw_shut Z_shut_times Z_check_time Z_is_shut Z_shut_many Z__law_hand Z__law_draw Z__law_any Z__law_same Z__law_gate Z__law_passages Z__law_shut Z__law_is_right Z_law
end K69
open PySem PySem.W PySem.Calls PyProof.Rows
theorem PySem.Challenge.cw_trackhouse_k69_whole_shut_gates_holds : PySem.Challenge.rw_trackhouse_k69_whole_shut_gates.Holds := by
  w_on; o_law
  refine HandSHeadRun.head_any (r := OpenLaw.row PySem.Challenge.rw_trackhouse_k69_whole_shut_gates) (q := view (OpenLaw.row PySem.Challenge.rw_trackhouse_k69_whole_shut_gates).prog [32]) (H := K69.hk) (ob := K69.ob) (M := 2000) (loose := K69.loose) (d := HandSHeadRun.topDef (OpenLaw.row PySem.Challenge.rw_trackhouse_k69_whole_shut_gates).prog 32) (kwd := []) K69.ob_eq
    (by kernel_rfl) (fun s => by kernel_rfl) K69.run (by kernel_rfl) (by kernel_rfl) (by kernel_rfl) (by rfl) (by first | assumption | decide +kernel) (by decide +kernel) ⟨rfl, rfl, rfl, rfl, rfl, by decide +kernel⟩ ?hw ?hc
  case hw => w_witness2
  case hc =>
    refine DL.walk_ofG (l := PySem.Challenge.rw_trackhouse_k69_whole_shut_gates) (n := 63) (k := 60) (x := "script") (xl := "law") rfl (by decide) (by kernel_rfl) ⟨rfl, by decide, by decide⟩ ?F
    intro w mg fa h Y G hmg0
    obtain ⟨K, KX, c⟩ := Y
    have hmg : mg ("law" : PySem.Str) = some (.ref fa) := by
      have e : (HandSHeadRun.topDef (OpenLaw.row PySem.Challenge.rw_trackhouse_k69_whole_shut_gates).prog 32).name = ("law" : PySem.Str) := by kernel_rfl
      rw [← e]
      exact hmg0
    exact ⟨K, KX, K69.facts KX G hmg c⟩

